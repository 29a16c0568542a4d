import PyProof.Rows.All
import Wide.All
import OpenK.AllK
import Wide.FinOn
import HandS.ForMost
import KE.KDictKeyed
import HandS.TupAny
import HandS.WideBits
import HandS.TupMul
import HandS.Deep
import HandS.TupLe
import HandS.Codes
import HandS.Defaults
import HandS.Property
import HandS.MakeKwOnly
import HandS.EndBits
import HandS.MakeKw
import HandS.IsInst
import HandS.Text
import HandS.AnyAll
import HandS.StrMore
import HandS.Replace
import KE.KDictWalk
import KE.KDictDisplayH
import HandS.Dict
import HandS.DictComp
import HandS.Iter
import HandS.TupLen
import HandS.Rev
import HandS.Zip
import HandS.Comp
import PyProof.RulesMatch
import PyProof.RulesMatchSeq
import PyProof.RulesMatchSingle
import PyProof.Rows.MatchSeqLen
import KE.KPairComp
import PyProof.DictTable
import KE.SortKeyHeap
import KE.KDictSum
import KE.KDictCopyH
import HandS.SortKw
import HandS.Keys
import PyProof.ReprRoads
import HandS.HeadEnd
import HandS.HeadHook4
import HandS.Exc
import HandS.Star
import KE.KDictList
import HandS.Style
import KE.DataMinMax
import KE.GoesEnum
import PyProof.NeKinds
import PyProof.Rows.SeqMore
import PyProof.Rows.StrJoin2
import PyProof.ListMulRoad
import KE.KDictZip
import KE.KTurns
import KE.LtData
import HandS.Flow
import KE.KEqDict
import KE.KStateDown
import Lean
import HandS.Head2
import PyProof.ReprLen
import PySem.Challenge.RW_leadsever_k02_order_and_beginnings
set_option Elab.async false
set_option linter.all false
set_option maxRecDepth 100000
set_option maxHeartbeats 4000000
/-! G: a functional semantics of the Python subset at hand, and its tie to HandS's judgements -/
namespace G
open PySem PySem.Spec PyProof.Rows L2

/-- values: trees by value; cel n: a mutable cell of the store; own i: what slot i of the frame owns; scr: the script -/
inductive D where
  | non | bl (b : Bool) | int (i : Int) | str (x : List Nat)
  | lst (xs : List D) | tup (xs : List D) | dct (kvs : List (D × D))
  | cel (n : Nat) | own (i : Nat) | scr (xs : List Int)
  deriving Inhabited
/-- contents: a list, a dict, an instance of the class c, a dict that is walked over -/
inductive Co where
  | L (xs : List D) | M (kvs : List (D × D)) | I (c : Nat) (fs : List (Nat × D)) | K (kvs : List (D × D))
  deriving Inhabited
inductive Slot where
  | emp | val (d : D) | own (c : Co)
  deriving Inhabited
structure S where
  env : List Slot
  sto : List Co
  deriving Inhabited
/-- what a computation comes to -/
inductive R (α : Type) where
  | ok (a : α) (s : S) | exc (c : Nat) (d : D) (s : S) | bad
namespace R
def bind {α β : Type} : R α → (α → S → R β) → R β
  | .ok a s, f => f a s
  | .exc c d s, _ => .exc c d s
  | .bad, _ => .bad
/-- it comes to an end that is wanted -/
def holds {α : Type} (P : α → S → Prop) (E : Nat → D → S → Prop) : R α → Prop
  | .ok a s => P a s
  | .exc c d s => E c d s
  | .bad => False
theorem holds_bind {α β : Type} {r : R α} {f : α → S → R β} {P : β → S → Prop} {E : Nat → D → S → Prop} : (r.bind f).holds P E ↔ r.holds (fun a s => (f a s).holds P E) E := by
  cases r <;> exact Iff.rfl
theorem holds_mono {α : Type} {r : R α} {P P' : α → S → Prop} {E E' : Nat → D → S → Prop} (h : r.holds P E) (hp : ∀ a s, P a s → P' a s) (he : ∀ c d s, E c d s → E' c d s) : r.holds P' E' := by
  cases r with
  | ok a s => exact hp a s h
  | exc c d s => exact he c d s h
  | bad => exact h
end R

/-! ### equality of values (of keys) -/
mutual
def beqD : D → D → Bool
  | .non, .non => true
  | .bl a, .bl b => a == b
  | .int a, .int b => decide (a = b)
  | .str a, .str b => decide (a = b)
  | .lst a, .lst b => beqL a b
  | .tup a, .tup b => beqL a b
  | .dct a, .dct b => beqE a b
  | .cel a, .cel b => decide (a = b)
  | .own a, .own b => decide (a = b)
  | .scr a, .scr b => decide (a = b)
  | _, _ => false
def beqL : List D → List D → Bool
  | [], [] => true
  | a :: as, b :: bs => beqD a b && beqL as bs
  | _, _ => false
def beqE : List (D × D) → List (D × D) → Bool
  | [], [] => true
  | a :: as, b :: bs => beqD a.1 b.1 && beqD a.2 b.2 && beqE as bs
  | _, _ => false
end
mutual
theorem beqD_self : ∀ a : D, beqD a a = true
  | .non => rfl
  | .bl a => by simp [beqD]
  | .int a => by simp [beqD]
  | .str a => by simp [beqD]
  | .lst a => by simp only [beqD]; exact beqL_self a
  | .tup a => by simp only [beqD]; exact beqL_self a
  | .dct a => by simp only [beqD]; exact beqE_self a
  | .cel a => by simp [beqD]
  | .own a => by simp [beqD]
  | .scr a => by simp [beqD]
theorem beqL_self : ∀ a : List D, beqL a a = true
  | [] => rfl
  | a :: as => by simp only [beqL, beqD_self a, beqL_self as]; rfl
theorem beqE_self : ∀ a : List (D × D), beqE a a = true
  | [] => rfl
  | (a, b) :: as => by simp only [beqE, beqD_self a, beqD_self b, beqE_self as]; rfl
end
mutual
theorem eq_of_beqD : ∀ a b : D, beqD a b = true → a = b
  | .non, b, h => by cases b <;> first | rfl | (simp [beqD] at h)
  | .bl a, b, h => by cases b <;> first | (simp [beqD] at h; done) | (simp only [beqD, beq_iff_eq] at h; rw [h])
  | .int a, b, h => by cases b <;> first | (simp [beqD] at h; done) | (simp only [beqD, decide_eq_true_eq] at h; rw [h])
  | .str a, b, h => by cases b <;> first | (simp [beqD] at h; done) | (simp only [beqD, decide_eq_true_eq] at h; rw [h])
  | .lst a, b, h => by
    cases b with
    | lst b => simp only [beqD] at h; rw [eq_of_beqL a b h]
    | _ => simp [beqD] at h
  | .tup a, b, h => by
    cases b with
    | tup b => simp only [beqD] at h; rw [eq_of_beqL a b h]
    | _ => simp [beqD] at h
  | .dct a, b, h => by
    cases b with
    | dct b => simp only [beqD] at h; rw [eq_of_beqE a b h]
    | _ => simp [beqD] at h
  | .cel a, b, h => by cases b <;> first | (simp [beqD] at h; done) | (simp only [beqD, decide_eq_true_eq] at h; rw [h])
  | .own a, b, h => by cases b <;> first | (simp [beqD] at h; done) | (simp only [beqD, decide_eq_true_eq] at h; rw [h])
  | .scr a, b, h => by cases b <;> first | (simp [beqD] at h; done) | (simp only [beqD, decide_eq_true_eq] at h; rw [h])
theorem eq_of_beqL : ∀ a b : List D, beqL a b = true → a = b
  | [], b, h => by cases b <;> first | rfl | (simp [beqL] at h)
  | a :: as, b, h => by
    cases b with
    | nil => simp [beqL] at h
    | cons b bs => simp only [beqL, Bool.and_eq_true] at h; rw [eq_of_beqD a b h.1, eq_of_beqL as bs h.2]
theorem eq_of_beqE : ∀ a b : List (D × D), beqE a b = true → a = b
  | [], b, h => by cases b <;> first | rfl | (simp [beqE] at h)
  | (a, a') :: as, b, h => by
    cases b with
    | nil => simp [beqE] at h
    | cons b bs =>
      obtain ⟨b, b'⟩ := b
      simp only [beqE, Bool.and_eq_true] at h
      rw [eq_of_beqD a b h.1.1, eq_of_beqD a' b' h.1.2, eq_of_beqE as bs h.2]
end
instance : DecidableEq D := fun a b => if h : beqD a b = true then .isTrue (eq_of_beqD a b h) else .isFalse fun e => h (e ▸ beqD_self a)
theorem beqD_eq (a b : D) : beqD a b = decide (a = b) := by
  cases h : beqD a b with
  | true => exact (decide_eq_true (eq_of_beqD a b h)).symm
  | false => exact (decide_eq_false fun e => by rw [e, beqD_self] at h; cases h).symm

/-! ### keys of dicts -/
def toStr (cs : List Nat) : Str := ⟨cs.toArray⟩
theorem toStr_inj {a b : List Nat} (h : toStr a = toStr b) : a = b := by
  have : a.toArray = b.toArray := congrArg Str.cps h
  simpa using this
mutual
def nk : D → NestedKey
  | .int i => .num i
  | .str x => .text (toStr x)
  | .tup xs => .tup (nks xs)
  | _ => .none
def nks : List D → List NestedKey
  | [] => []
  | x :: xs => nk x :: nks xs
end
mutual
/-- what may be a key here: a whole number, a text, None, a tuple of such -/
def isKey : D → Bool
  | .non => true
  | .int _ => true
  | .str _ => true
  | .tup xs => areKeys xs
  | _ => false
def areKeys : List D → Bool
  | [] => true
  | x :: xs => isKey x && areKeys xs
end
mutual
theorem nk_inj : ∀ a b : D, isKey a = true → isKey b = true → nk a = nk b → a = b
  | .non, b, _, hb, h => by cases b <;> first | rfl | (simp [nk] at h; done) | (simp [isKey] at hb; done)
  | .int i, b, _, hb, h => by cases b <;> first | (simp [nk] at h; done) | (simp [isKey] at hb; done) | (simp only [nk, NestedKey.num.injEq] at h; rw [h])
  | .str x, b, _, hb, h => by cases b <;> first | (simp [nk] at h; done) | (simp [isKey] at hb; done) | (simp only [nk, NestedKey.text.injEq] at h; rw [toStr_inj h])
  | .tup xs, b, ha, hb, h => by
    cases b with
    | tup ys =>
      simp only [nk, NestedKey.tup.injEq] at h
      simp only [isKey] at ha hb
      rw [nks_inj xs ys ha hb h]
    | _ => first | (simp [nk] at h; done) | (simp [isKey] at hb; done)
  | .bl _, _, ha, _, _ => by simp [isKey] at ha
  | .lst _, _, ha, _, _ => by simp [isKey] at ha
  | .dct _, _, ha, _, _ => by simp [isKey] at ha
  | .cel _, _, ha, _, _ => by simp [isKey] at ha
  | .own _, _, ha, _, _ => by simp [isKey] at ha
  | .scr _, _, ha, _, _ => by simp [isKey] at ha
theorem nks_inj : ∀ a b : List D, areKeys a = true → areKeys b = true → nks a = nks b → a = b
  | [], b, _, _, h => by cases b <;> first | rfl | (simp [nks] at h)
  | a :: as, b, ha, hb, h => by
    cases b with
    | nil => simp [nks] at h
    | cons b bs =>
      simp only [nks, List.cons.injEq] at h
      simp only [areKeys, Bool.and_eq_true] at ha hb
      rw [nk_inj a b ha.1 hb.1 h.1, nks_inj as bs ha.2 hb.2 h.2]
end
end G

set_option Elab.async false
set_option linter.all false
set_option maxRecDepth 100000
set_option maxHeartbeats 4000000
namespace G
open PySem PySem.Spec PyProof.Rows L2

abbrev Sg := List (Option V)
/-- the names of attributes by number, the classes' places by number -/
structure Tb where
  an : List Str
  nd : an.Nodup
  nc : Nat
  cls : Nat → Addr
/-- F: the frozen addresses; rho: where the cells stand; n: how many cells there are -/
structure Wd where
  F : Addr → Prop
  rho : Nat → Addr
  n : Nat
/-- a dict at a, by its entries -/
structure DE where
  l : List DictEntry
  ep : Nat
def dictHO (a : Addr) (es : DE) : HO := .ext fun h => es.l.length ≤ sizeLine ∧ (a == sysModules) = false ∧ ∃ o, h.get? a = some o ∧ o.ExactDict ∧ o.data = .dict es.l.toArray es.ep

/-- the script at a -/
def ScrR (K : PySem.W.Frag) (H : Hp) (a : Addr) (xs : List Int) : Prop := (∃ o, H a = some (.frz o (.lst (xs.map V.int)))) ∨
  ∃ (o : Obj) (its : Array Value) (n : Nat), K.lookup a = some o ∧ o.cls = .type "list" ∧ o.dict = none ∧ o.data = .seq its n ∧ its.size ≤ sizeLine ∧ Vals (xs.map V.int) its.toList
theorem ScrR.sq {K : PySem.W.Frag} {H : Hp} {a : Addr} {xs : List Int} (h : ScrR K H a xs) : SqL K H a (xs.map V.int) := by
  rcases h with ⟨o, h⟩ | h
  · exact .inl (.inr ⟨o, h⟩)
  · exact .inr h

mutual
inductive Rep (w : World) (K : PySem.W.Frag) (H : Hp) (G : Wd) : V → D → Prop
  | non : Rep w K H G .non .non
  | bl (b : Bool) : Rep w K H G (.bl b) (.bl b)
  | int (i : Int) : Rep w K H G (.int i) (.int i)
  | str (x : List Nat) : Rep w K H G (.str (toStr x)) (.str x)
  | lst {a : Addr} {vs : List V} {ds : List D} : G.F a → H a = some (.lst vs) → RepL w K H G vs ds → Rep w K H G (.ref a) (.lst ds)
  | tup {a : Addr} {vs : List V} {ds : List D} : SqT K H a vs → RepL w K H G vs ds → Rep w K H G (.ref a) (.tup ds)
  | dct {a : Addr} {es : DE} {kvs : List (D × D)} : G.F a → H a = some (dictHO a es) → RepE w K H G es.l kvs → (kvs.map (·.1)).Nodup → Rep w K H G (.ref a) (.dct kvs)
  | cel {n : Nat} : n < G.n → Rep w K H G (.ref (G.rho n)) (.cel n)
  | scr {a : Addr} {xs : List Int} : ScrR K H a xs → Rep w K H G (.ref a) (.scr xs)
inductive RepL (w : World) (K : PySem.W.Frag) (H : Hp) (G : Wd) : List V → List D → Prop
  | nil : RepL w K H G [] []
  | cons {v : V} {d : D} {vs : List V} {ds : List D} : Rep w K H G v d → RepL w K H G vs ds → RepL w K H G (v :: vs) (d :: ds)
inductive RepE (w : World) (K : PySem.W.Frag) (H : Hp) (G : Wd) : List DictEntry → List (D × D) → Prop
  | nil : RepE w K H G [] []
  | cons {e : DictEntry} {es : List DictEntry} {k d : D} {u v : V} {kvs : List (D × D)} : isKey k = true → RelV u e.key → Rep w K H G u k → e.hash = (nk k).hash w → RelV v e.val → Rep w K H G v d → RepE w K H G es kvs → RepE w K H G (e :: es) ((k, d) :: kvs)
end

/-- what keeps what is told of values -/
structure Kp (H : Hp) (G : Wd) (H' : Hp) (G' : Wd) : Prop where
  fr : ∀ a, G.F a → G'.F a
  ho : ∀ a, G.F a → ∀ o, H a = some o → H' a = some o
  tp : ∀ a vs, Rd H a (.tup vs) → Rd H' a (.tup vs)
  fz : ∀ a o u, H a = some (.frz o u) → H' a = some (.frz o u)
  rh : ∀ n, n < G.n → G'.rho n = G.rho n
  le : G.n ≤ G'.n

section
variable {w : World} {K : PySem.W.Frag} {H H' : Hp} {G G' : Wd}
theorem SqT.kp (k : ∀ a vs, Rd H a (.tup vs) → Rd H' a (.tup vs)) {a : Addr} {vs : List V} (h : SqT K H a vs) : SqT K H' a vs := by
  rcases h with h | h
  · exact .inl (k a vs h)
  · exact .inr h
theorem SqL.kp {a : Addr} {vs : List V} (k : ∀ o, H a = some o → H' a = some o) (h : SqL K H a vs) : SqL K H' a vs := by
  rcases h with (h | ⟨o, h⟩) | h
  · exact .inl (.inl (k _ h))
  · exact .inl (.inr ⟨o, k _ h⟩)
  · exact .inr h
mutual
theorem Rep.kp (k : Kp H G H' G') : ∀ {v : V} {d : D}, Rep w K H G v d → Rep w K H' G' v d
  | _, _, .non => .non
  | _, _, .bl b => .bl b
  | _, _, .int i => .int i
  | _, _, .str x => .str x
  | _, _, .lst f s r => .lst (k.fr _ f) (k.ho _ f _ s) (RepL.kp k r)
  | _, _, .tup s r => .tup (SqT.kp k.tp s) (RepL.kp k r)
  | _, _, .dct f s r n => .dct (k.fr _ f) (k.ho _ f _ s) (RepE.kp k r) n
  | _, _, .cel (n := n) h => by
    rw [← k.rh n h]
    exact .cel (Nat.lt_of_lt_of_le h k.le)
  | _, _, .scr h => .scr (h.elim (fun ⟨o, h⟩ => .inl ⟨o, k.fz _ _ _ h⟩) .inr)
theorem RepL.kp (k : Kp H G H' G') : ∀ {vs : List V} {ds : List D}, RepL w K H G vs ds → RepL w K H' G' vs ds
  | _, _, .nil => .nil
  | _, _, .cons r s => .cons (Rep.kp k r) (RepL.kp k s)
theorem RepE.kp (k : Kp H G H' G') : ∀ {es : List DictEntry} {kvs : List (D × D)}, RepE w K H G es kvs → RepE w K H' G' es kvs
  | _, _, .nil => .nil
  | _, _, .cons a b c d e f g => .cons a b (Rep.kp k c) d e (Rep.kp k f) (RepE.kp k g)
end
theorem RepL.ints : ∀ zs : List Int, RepL w K H G (zs.map V.int) (zs.map D.int)
  | [] => .nil
  | z :: zs => .cons (.int z) (RepL.ints zs)
theorem RepL.length : ∀ {vs : List V} {ds : List D}, RepL w K H G vs ds → vs.length = ds.length
  | _, _, .nil => rfl
  | _, _, .cons _ s => by simp [RepL.length s]
theorem RepE.length : ∀ {es : List DictEntry} {kvs : List (D × D)}, RepE w K H G es kvs → es.length = kvs.length
  | _, _, .nil => rfl
  | _, _, .cons _ _ _ _ _ _ s => by simp [RepE.length s]
theorem RepL.get : ∀ {vs : List V} {ds : List D} {i : Nat} {d : D}, RepL w K H G vs ds → ds[i]? = some d → ∃ v, vs[i]? = some v ∧ Rep w K H G v d
  | _, _, _, _, .nil, e => by simp at e
  | _, _, 0, _, .cons r _, e => by
    simp at e; subst e; exact ⟨_, rfl, r⟩
  | _, _, i + 1, d, .cons _ t, e => by
    obtain ⟨v, h1, h2⟩ := RepL.get (i := i) (d := d) t (by simpa using e)
    exact ⟨v, by simpa using h1, h2⟩
theorem RepL.getV : ∀ {vs : List V} {ds : List D} {i : Nat} {v : V}, RepL w K H G vs ds → vs[i]? = some v → ∃ d, ds[i]? = some d ∧ Rep w K H G v d
  | _, _, _, _, .nil, e => by simp at e
  | _, _, 0, _, .cons r _, e => by
    simp at e; subst e; exact ⟨_, rfl, r⟩
  | _, _, i + 1, d, .cons _ t, e => by
    obtain ⟨v, h1, h2⟩ := RepL.getV (i := i) (v := d) t (by simpa using e)
    exact ⟨v, by simpa using h1, h2⟩
theorem RepL.append : ∀ {vs : List V} {ds : List D} {us : List V} {es : List D}, RepL w K H G vs ds → RepL w K H G us es → RepL w K H G (vs ++ us) (ds ++ es)
  | _, _, _, _, .nil, s => s
  | _, _, _, _, .cons r t, s => .cons r (RepL.append t s)
theorem RepL.take : ∀ {vs : List V} {ds : List D} (n : Nat), RepL w K H G vs ds → RepL w K H G (vs.take n) (ds.take n)
  | _, _, 0, _ => .nil
  | _, _, _ + 1, .nil => .nil
  | _, _, n + 1, .cons r t => .cons r (RepL.take n t)
theorem RepL.drop : ∀ {vs : List V} {ds : List D} (n : Nat), RepL w K H G vs ds → RepL w K H G (vs.drop n) (ds.drop n)
  | _, _, 0, r => r
  | _, _, _ + 1, .nil => .nil
  | _, _, n + 1, .cons _ t => RepL.drop n t
theorem RepL.snoc {vs : List V} {ds : List D} {v : V} {d : D} (r : RepL w K H G vs ds) (q : Rep w K H G v d) : RepL w K H G (vs ++ [v]) (ds ++ [d]) := r.append (.cons q .nil)
theorem RepL.reverse : ∀ {vs : List V} {ds : List D}, RepL w K H G vs ds → RepL w K H G vs.reverse ds.reverse
  | _, _, .nil => .nil
  | _, _, .cons r t => by
    rw [List.reverse_cons, List.reverse_cons]
    exact (RepL.reverse t).snoc r
theorem RepL.set {v : V} {d : D} (q : Rep w K H G v d) : ∀ {vs : List V} {ds : List D} (i : Nat), RepL w K H G vs ds → RepL w K H G (vs.set i v) (ds.set i d)
  | _, _, _, .nil => .nil
  | _, _, 0, .cons _ t => .cons q t
  | _, _, i + 1, .cons r t => .cons r (RepL.set q i t)
end

/-- fields: numbers for names -/
inductive FR (w : World) (K : PySem.W.Frag) (T : Tb) (H : Hp) (G : Wd) : List (Str × V) → List (Nat × D) → Prop
  | nil : FR w K T H G [] []
  | cons {nm : Str} {v : V} {i : Nat} {d : D} {gs : List (Str × V)} {fs : List (Nat × D)} : T.an[i]? = some nm → Rep w K H G v d → FR w K T H G gs fs → FR w K T H G ((nm, v) :: gs) ((i, d) :: fs)
theorem FR.kp {w : World} {K : PySem.W.Frag} {T : Tb} {H H' : Hp} {G G' : Wd} (k : Kp H G H' G') : ∀ {gs : List (Str × V)} {fs : List (Nat × D)}, FR w K T H G gs fs → FR w K T H' G' gs fs
  | _, _, .nil => .nil
  | _, _, .cons a b c => .cons a (b.kp k) (FR.kp k c)
/-- the content at a -/
def ContR (w : World) (K : PySem.W.Frag) (T : Tb) (H : Hp) (G : Wd) (a : Addr) : Co → Prop
  | .L xs => ∃ vs, H a = some (.lst vs) ∧ RepL w K H G vs xs
  | .M kvs => ∃ es, H a = some (dictHO a es) ∧ RepE w K H G es.l kvs ∧ (kvs.map (·.1)).Nodup
  | .I c fs => c < T.nc ∧ ∃ dx gs, H a = some (.ins (T.cls c) dx gs) ∧ FR w K T H G gs fs
  | .K kvs => ∃ es, H a = some (dictHO a es) ∧ RepE w K H G es.l kvs ∧ (kvs.map (·.1)).Nodup
theorem ContR.kp {w : World} {K : PySem.W.Frag} {T : Tb} {H H' : Hp} {G G' : Wd} {a : Addr} {c : Co} (k : Kp H G H' G') (e : ∀ o, H a = some o → H' a = some o) (h : ContR w K T H G a c) : ContR w K T H' G' a c := by
  cases c with
  | L xs => obtain ⟨vs, h1, h2⟩ := h; exact ⟨vs, e _ h1, h2.kp k⟩
  | M kvs => obtain ⟨es, h1, h2, h3⟩ := h; exact ⟨es, e _ h1, h2.kp k, h3⟩
  | I c fs => obtain ⟨hc, dx, gs, h1, h2⟩ := h; exact ⟨hc, dx, gs, e _ h1, h2.kp k⟩
  | K kvs => obtain ⟨es, h1, h2, h3⟩ := h; exact ⟨es, e _ h1, h2.kp k, h3⟩
theorem ContR.some {w : World} {K : PySem.W.Frag} {T : Tb} {H : Hp} {G : Wd} {a : Addr} {c : Co} (h : ContR w K T H G a c) : ∃ o, H a = some o := by
  cases c with
  | L xs => obtain ⟨vs, h1, h2⟩ := h; exact ⟨_, h1⟩
  | M kvs => obtain ⟨es, h1, h2, h3⟩ := h; exact ⟨_, h1⟩
  | I c fs => obtain ⟨_, dx, gs, h1, h2⟩ := h; exact ⟨_, h1⟩
  | K kvs => obtain ⟨es, h1, h2, h3⟩ := h; exact ⟨_, h1⟩
theorem ContR.mut {w : World} {K : PySem.W.Frag} {T : Tb} {H : Hp} {G : Wd} {a : Addr} {c : Co} (h : ContR w K T H G a c) : Mut (H a) := by
  cases c with
  | L xs => obtain ⟨vs, h1, h2⟩ := h; rw [h1]; trivial
  | M kvs => obtain ⟨es, h1, h2, h3⟩ := h; rw [h1]; trivial
  | I c fs => obtain ⟨_, dx, gs, h1, h2⟩ := h; rw [h1]; trivial
  | K kvs => obtain ⟨es, h1, h2, h3⟩ := h; rw [h1]; trivial
theorem not_tup_of_mut {H : Hp} {a : Addr} {vs : List V} (m : Mut (H a)) (h : Rd H a (.tup vs)) : False := by
  rcases h with h | ⟨o, h⟩ <;> (rw [h] at m; exact m)

/-- the state at hand -/
structure StR (w : World) (K : PySem.W.Frag) (T : Tb) (σ : Sg) (H : Hp) (G : Wd) (s : S) : Prop where
  len : s.env.length = σ.length
  val : ∀ (i : Nat) (d : D), s.env[i]? = some (Slot.val d) → ∃ v, σ[i]? = some (some v) ∧ Rep w K H G v d
  own : ∀ (i : Nat) (c : Co), s.env[i]? = some (Slot.own c) → ∃ a, σ[i]? = some (some (V.ref a)) ∧ ContR w K T H G a c ∧ ¬ G.F a
  oin : ∀ (i j : Nat) (c c' : Co) (a : Addr), s.env[i]? = some (Slot.own c) → s.env[j]? = some (Slot.own c') → σ[i]? = some (some (V.ref a)) → σ[j]? = some (some (V.ref a)) → i = j
  cnt : s.sto.length = G.n
  sto : ∀ (n : Nat) (c : Co), s.sto[n]? = some c → ContR w K T H G (G.rho n) c ∧ ¬ G.F (G.rho n)
  inj : ∀ (n m : Nat), n < G.n → m < G.n → G.rho n = G.rho m → n = m
  sep : ∀ (i : Nat) (c : Co) (n : Nat), s.env[i]? = some (Slot.own c) → n < G.n → σ[i]? ≠ some (some (V.ref (G.rho n)))
  frs : ∀ (a : Addr), G.F a → ∃ o, H a = some o
/-- what may be written -/
def Tch (σ : Sg) (G : Wd) (s : S) (a : Addr) : Prop := (∃ n, n < G.n ∧ G.rho n = a) ∨ ∃ (i : Nat) (c : Co), s.env[i]? = some (Slot.own c) ∧ σ[i]? = some (some (V.ref a))
/-- .. but what is walked over -/
def Wrt (σ : Sg) (G : Wd) (s : S) (a : Addr) : Prop := (∃ n, n < G.n ∧ G.rho n = a ∧ ∀ kvs, s.sto[n]? ≠ some (.K kvs)) ∨ ∃ (i : Nat) (c : Co), s.env[i]? = some (Slot.own c) ∧ σ[i]? = some (some (V.ref a))
theorem Wrt.tch {σ : Sg} {G : Wd} {s : S} {a : Addr} : Wrt σ G s a → Tch σ G s a
  | .inl ⟨n, h, e, _⟩ => .inl ⟨n, h, e⟩
  | .inr h => .inr h
/-- a step: what was not to be written is as it was -/
structure Stp (σ : Sg) (H : Hp) (G : Wd) (s : S) (σ' : Sg) (H' : Hp) (G' : Wd) (s' : S) : Prop where
  keep : ∀ a o, H a = some o → ¬ Wrt σ G s a → H' a = some o
  fr : ∀ a, G.F a → G'.F a
  rh : ∀ n, n < G.n → G'.rho n = G.rho n
  le : G.n ≤ G'.n
  nf : ∀ a, G'.F a → G.F a ∨ H a = none ∨ Tch σ G s a
  tc : ∀ a, Tch σ' G' s' a → Tch σ G s a ∨ H a = none
  wc : ∀ a, Wrt σ' G' s' a → Wrt σ G s a ∨ H a = none
  dm : ∀ a, H' a = none → H a = none

section
variable {w : World} {K : PySem.W.Frag} {T : Tb} {σ σ' σ'' : Sg} {H H' H'' : Hp} {G G' G'' : Wd} {s s' s'' : S}
theorem Stp.refl : Stp σ H G s σ H G s := ⟨fun _ _ h _ => h, fun _ h => h, fun _ _ => rfl, Nat.le_refl _, fun _ h => .inl h, fun _ h => .inl h, fun _ h => .inl h, fun _ h => h⟩
theorem Stp.trans (a : Stp σ H G s σ' H' G' s') (b : Stp σ' H' G' s' σ'' H'' G'' s'') : Stp σ H G s σ'' H'' G'' s'' where
  keep := fun x o h n => b.keep x o (a.keep x o h n) fun t => by
    rcases a.wc x t with t | t
    · exact n t
    · rw [h] at t; cases t
  fr := fun x h => b.fr x (a.fr x h)
  rh := fun n h => (b.rh n (Nat.lt_of_lt_of_le h a.le)).trans (a.rh n h)
  le := Nat.le_trans a.le b.le
  nf := fun x h => by
    rcases b.nf x h with h | h | h
    · exact a.nf x h
    · exact .inr (.inl (a.dm x h))
    · rcases a.tc x h with t | t
      · exact .inr (.inr t)
      · exact .inr (.inl t)
  tc := fun x h => by
    rcases b.tc x h with h | h
    · exact a.tc x h
    · exact .inr (a.dm x h)
  wc := fun x h => by
    rcases b.wc x h with h | h
    · exact a.wc x h
    · exact .inr (a.dm x h)
  dm := fun x h => a.dm x (b.dm x h)
theorem StR.cell (I : StR w K T σ H G s) {n : Nat} (h : n < G.n) : ∃ c, s.sto[n]? = some c := by
  have : n < s.sto.length := by rw [I.cnt]; exact h
  exact ⟨_, List.getElem?_eq_getElem this⟩
theorem StR.tch (I : StR w K T σ H G s) {a : Addr} (h : Tch σ G s a) : ∃ c, ContR w K T H G a c ∧ ¬ G.F a := by
  rcases h with ⟨n, h, rfl⟩ | ⟨i, c, h, e⟩
  · obtain ⟨c, hc⟩ := I.cell h
    exact ⟨c, I.sto n c hc⟩
  · obtain ⟨b, e', h1, h2⟩ := I.own i c h
    rw [e] at e'; cases e'
    exact ⟨c, h1, h2⟩
theorem StR.kp (I : StR w K T σ H G s) (b : Stp σ H G s σ' H' G' s') : Kp H G H' G' where
  fr := b.fr
  ho := fun a f o h => b.keep a o h fun t => let ⟨_, _, n⟩ := I.tch t.tch; n f
  tp := fun a vs h => by
    have n : ¬ Wrt σ G s a := fun t => let ⟨_, c, _⟩ := I.tch t.tch; not_tup_of_mut c.mut h
    rcases h with h | ⟨o, h⟩
    · exact .inl (b.keep a _ h n)
    · exact .inr ⟨o, b.keep a _ h n⟩
  fz := fun a o u h => b.keep a _ h fun t => let ⟨_, c, _⟩ := I.tch t.tch; by
    have m := c.mut
    rw [h] at m
    exact m
  rh := b.rh
  le := b.le
end

/-- a value in hand: told by value, a cell, or what a slot holds -/
def RepT (w : World) (K : PySem.W.Frag) (σ : Sg) (H : Hp) (G : Wd) (s : S) (v : V) : D → Prop
  | .own i => σ[i]? = some (some v) ∧ ∃ x, s.env[i]? = some x
  | d => Rep w K H G v d
def unK : Option Co → Option Co
  | some (.K kvs) => some (.M kvs)
  | o => o
theorem unK_L {o : Option Co} {xs : List D} (h : unK o = some (.L xs)) : o = some (.L xs) := by
  unfold unK at h
  split at h
  · cases h
  · exact h
theorem unK_I {o : Option Co} {c : Nat} {fs : List (Nat × D)} (h : unK o = some (.I c fs)) : o = some (.I c fs) := by
  unfold unK at h
  split at h
  · cases h
  · exact h
theorem unK_M {o : Option Co} {kvs : List (D × D)} (h : unK o = some (.M kvs)) : o = some (.M kvs) ∨ o = some (.K kvs) := by
  unfold unK at h
  split at h
  · cases h; exact .inr rfl
  · exact .inl h
/-- the list or dict that a value in hand is -/
def content (s : S) : D → Option Co
  | .lst xs => some (.L xs)
  | .dct kvs => some (.M kvs)
  | .cel n => unK s.sto[n]?
  | .own i => match s.env[i]? with
    | some (.own c) => some c
    | some (.val (.lst xs)) => some (.L xs)
    | some (.val (.dct kvs)) => some (.M kvs)
    | _ => none
  | _ => none
section
variable {w : World} {K : PySem.W.Frag} {T : Tb} {σ σ' : Sg} {H H' : Hp} {G G' : Wd} {s s' : S} {v : V} {d : D}
theorem RepT.of (h : Rep w K H G v d) : RepT w K σ H G s v d := by
  cases h <;> first | exact .non | exact .bl _ | exact .int _ | exact .str _ | exact .lst (by assumption) (by assumption) (by assumption) | exact .tup (by assumption) (by assumption) | exact .dct (by assumption) (by assumption) (by assumption) (by assumption) | exact .cel (by assumption) | exact .scr (by assumption)
theorem content_L {xs : List D} (I : StR w K T σ H G s) (h : RepT w K σ H G s v d) (e : content s d = some (.L xs)) : ∃ a vs, v = .ref a ∧ H a = some (.lst vs) ∧ RepL w K H G vs xs := by
  cases d with
  | lst ys =>
    cases e
    cases h with
    | lst f q r => exact ⟨_, _, rfl, q, r⟩
  | cel n =>
    cases h with
    | cel hn =>
      obtain ⟨⟨vs, h1, h2⟩, _⟩ := I.sto n _ (unK_L e)
      exact ⟨_, vs, rfl, h1, h2⟩
  | own i =>
    obtain ⟨hv, x, hx⟩ := h
    simp only [content, hx] at e
    cases x with
    | emp => cases e
    | own c =>
      obtain ⟨a, ha, ⟨vs, h1, h2⟩, _⟩ := (by cases e; exact I.own i _ hx : ∃ a, σ[i]? = some (some (V.ref a)) ∧ ContR w K T H G a (.L xs) ∧ ¬ G.F a)
      rw [hv] at ha; cases ha
      exact ⟨a, vs, rfl, h1, h2⟩
    | val d' =>
      obtain ⟨u, hu, r⟩ := I.val i d' hx
      rw [hv] at hu; cases hu
      cases d' with
      | lst ys =>
        cases e
        cases r with
        | lst f q r => exact ⟨_, _, rfl, q, r⟩
      | _ => cases e
  | _ => cases e
theorem content_M {kvs : List (D × D)} (I : StR w K T σ H G s) (h : RepT w K σ H G s v d) (e : content s d = some (.M kvs)) : ∃ a es, v = .ref a ∧ H a = some (dictHO a es) ∧ RepE w K H G es.l kvs ∧ (kvs.map (·.1)).Nodup := by
  cases d with
  | dct ys =>
    cases e
    cases h with
    | dct f q r n => exact ⟨_, _, rfl, q, r, n⟩
  | cel n =>
    cases h with
    | cel hn =>
      rcases unK_M e with e | e
      · obtain ⟨⟨es, h1, h2, h3⟩, _⟩ := I.sto n _ e
        exact ⟨_, es, rfl, h1, h2, h3⟩
      · obtain ⟨⟨es, h1, h2, h3⟩, _⟩ := I.sto n _ e
        exact ⟨_, es, rfl, h1, h2, h3⟩
  | own i =>
    obtain ⟨hv, x, hx⟩ := h
    simp only [content, hx] at e
    cases x with
    | emp => cases e
    | own c =>
      obtain ⟨a, ha, ⟨es, h1, h2, h3⟩, _⟩ := (by cases e; exact I.own i _ hx : ∃ a, σ[i]? = some (some (V.ref a)) ∧ ContR w K T H G a (.M kvs) ∧ ¬ G.F a)
      rw [hv] at ha; cases ha
      exact ⟨a, es, rfl, h1, h2, h3⟩
    | val d' =>
      obtain ⟨u, hu, r⟩ := I.val i d' hx
      rw [hv] at hu; cases hu
      cases d' with
      | dct ys =>
        cases e
        cases r with
        | dct f q r n => exact ⟨_, _, rfl, q, r, n⟩
      | _ => cases e
  | _ => cases e
/-- the items of a list, a tuple, the script -/
def coList : Option Co → Option (List D)
  | some (.L xs) => some xs
  | _ => none
def seqOf (s : S) : D → Option (List D)
  | .tup xs => some xs
  | .scr xs => some (xs.map D.int)
  | d => coList (content s d)
theorem seqOf_ok {xs : List D} (I : StR w K T σ H G s) (h : RepT w K σ H G s v d) (e : seqOf s d = some xs) : ∃ a vs, v = .ref a ∧ (SqL K H a vs ∨ SqT K H a vs) ∧ RepL w K H G vs xs := by
  have cont : coList (content s d) = some xs → ∃ a vs, v = .ref a ∧ (SqL K H a vs ∨ SqT K H a vs) ∧ RepL w K H G vs xs := fun e => by
    cases q : content s d with
    | none => rw [q] at e; cases e
    | some c =>
      rw [q] at e
      cases c with
      | L ys =>
        cases e
        obtain ⟨a, vs, h1, h2, h3⟩ := content_L I h q
        exact ⟨a, vs, h1, .inl (.inl (.inl h2)), h3⟩
      | _ => cases e
  cases d with
  | tup ys =>
    cases e
    cases h with
    | tup q r => exact ⟨_, _, rfl, .inr q, r⟩
  | scr zs =>
    cases e
    cases h with
    | scr h => exact ⟨_, _, rfl, .inl h.sq, RepL.ints zs⟩
  | _ => exact cont e
end
end G

set_option Elab.async false
set_option linter.all false
set_option maxRecDepth 100000
set_option maxHeartbeats 4000000
namespace G
open PySem PySem.Spec PyProof.Rows L2

abbrev Ex := S → R D
abbrev Tx := S → R Bool
abbrev Ax := S → R (List D)
inductive Fl where
  | nx | rt (d : D) | bk | ct
abbrev Sx := S → R Fl
/-- what is wanted where an exception leaves: its class, its value, the state -/
structure Wi where
  may : Prop
  is : Nat → D → Sg → Hp → Wd → S → Prop
def W0 : Wi := ⟨False, fun _ _ _ _ _ _ => False⟩

section
variable {w : World} {K : PySem.W.Frag} {T : Tb} {σ σ' : Sg} {H H' : Hp} {G G' : Wd} {s s' : S} {v : V} {d : D} {a p : Addr} {o : HO}

theorem RepT.step (I : StR w K T σ H G s) (b : Stp σ H G s σ H' G' s') (J : StR w K T σ H' G' s') (h : RepT w K σ H G s v d) : RepT w K σ H' G' s' v d := by
  cases d with
  | own i =>
    obtain ⟨h1, x, h2⟩ := h
    refine ⟨h1, ?_⟩
    have l : i < s'.env.length := by rw [J.len, ← I.len]; exact (List.getElem?_eq_some_iff.mp h2).1
    exact ⟨_, List.getElem?_eq_getElem l⟩
  | _ => exact RepT.of (Rep.kp (I.kp b) h)
/-- the abstract heap grows at a new place -/
theorem kp_fresh (hp : H p = none) (hF : ∀ a, G.F a → G'.F a) (hr : ∀ n, n < G.n → G'.rho n = G.rho n) (hn : G.n ≤ G'.n) : Kp H G (upd H p o) G' := by
  have k : ∀ a u, H a = some u → upd H p o a = some u := fun a u e => by rw [upd_ne (ne_of_none e hp)]; exact e
  refine ⟨hF, fun a _ u e => k a u e, fun a vs h => ?_, fun a o u h => k a _ h, hr, hn⟩
  rcases h with h | ⟨u, h⟩
  · exact .inl (k _ _ h)
  · exact .inr ⟨u, k _ _ h⟩
theorem StR.fresh (I : StR w K T σ H G s) (hp : H p = none) : StR w K T σ (upd H p o) { G with F := fun a => G.F a ∨ a = p } s := by
  have k : Kp H G (upd H p o) { G with F := fun a => G.F a ∨ a = p } := kp_fresh hp (fun _ h => .inl h) (fun _ _ => rfl) (Nat.le_refl _)
  have kk : ∀ a u, H a = some u → upd H p o a = some u := fun a u e => by rw [upd_ne (ne_of_none e hp)]; exact e
  have np : ∀ a c, ContR w K T H G a c → a ≠ p := fun a c h e => by
    obtain ⟨u, h⟩ := h.some
    rw [e, hp] at h; cases h
  refine ⟨I.len, fun i d h => ?_, fun i c h => ?_, I.oin, I.cnt, fun n c h => ?_, I.inj, I.sep, fun a h => ?_⟩
  · obtain ⟨v, h1, h2⟩ := I.val i d h
    exact ⟨v, h1, h2.kp k⟩
  · obtain ⟨a, h1, h2, h3⟩ := I.own i c h
    exact ⟨a, h1, h2.kp k (kk a), fun z => z.elim h3 (np _ _ h2)⟩
  · obtain ⟨h1, h2⟩ := I.sto n c h
    exact ⟨h1.kp k (kk _), fun z => z.elim h2 (np _ _ h1)⟩
  · rcases h with h | h
    · obtain ⟨u, h⟩ := I.frs a h
      exact ⟨u, kk a u h⟩
    · rw [h]; exact ⟨_, upd_same⟩
theorem Stp.fresh (hp : H p = none) : Stp σ H G s σ (upd H p o) { G with F := fun a => G.F a ∨ a = p } s where
  keep := fun a u e _ => by rw [upd_ne (ne_of_none e hp)]; exact e
  fr := fun _ h => .inl h
  rh := fun _ _ => rfl
  le := Nat.le_refl _
  nf := fun a h => h.elim .inl fun e => .inr (.inl (by rw [e]; exact hp))
  tc := fun _ h => .inl h
  wc := fun _ h => .inl h
  dm := fun a h => by
    by_cases e : a = p
    · rw [e]; exact hp
    · rw [upd_ne e] at h; exact h
/-- .. not frozen (a range, an iterator: what no value is) -/
theorem StR.fresh0 (I : StR w K T σ H G s) (hp : H p = none) : StR w K T σ (upd H p o) G s := by
  have k : Kp H G (upd H p o) G := kp_fresh hp (fun _ h => h) (fun _ _ => rfl) (Nat.le_refl _)
  have kk : ∀ a u, H a = some u → upd H p o a = some u := fun a u e => by rw [upd_ne (ne_of_none e hp)]; exact e
  refine ⟨I.len, fun i d h => ?_, fun i c h => ?_, I.oin, I.cnt, fun n c h => ?_, I.inj, I.sep, fun a h => let ⟨u, h⟩ := I.frs a h; ⟨u, kk a u h⟩⟩
  · obtain ⟨v, h1, h2⟩ := I.val i d h
    exact ⟨v, h1, h2.kp k⟩
  · obtain ⟨a, h1, h2, h3⟩ := I.own i c h
    exact ⟨a, h1, h2.kp k (kk a), h3⟩
  · obtain ⟨h1, h2⟩ := I.sto n c h
    exact ⟨h1.kp k (kk _), h2⟩
theorem Stp.fresh0 (hp : H p = none) : Stp σ H G s σ (upd H p o) G s where
  keep := fun a u e _ => by rw [upd_ne (ne_of_none e hp)]; exact e
  fr := fun _ h => h
  rh := fun _ _ => rfl
  le := Nat.le_refl _
  nf := fun a h => .inl h
  tc := fun _ h => .inl h
  wc := fun _ h => .inl h
  dm := fun a h => by
    by_cases e : a = p
    · rw [e]; exact hp
    · rw [upd_ne e] at h; exact h
/-- a new cell -/
def Wd.cell (G : Wd) (p : Addr) : Wd := { F := G.F, rho := fun n => if n = G.n then p else G.rho n, n := G.n + 1 }
theorem Wd.cell_old {n : Nat} (h : n < G.n) : (G.cell p).rho n = G.rho n := by
  show (if n = G.n then p else G.rho n) = _
  rw [if_neg (Nat.ne_of_lt h)]
theorem Wd.cell_new : (G.cell p).rho G.n = p := by
  show (if G.n = G.n then p else _) = _
  rw [if_pos rfl]
theorem kp_cell (hp : H p = none) : Kp H G (upd H p o) (G.cell p) := kp_fresh hp (fun _ h => h) (fun _ h => Wd.cell_old h) (Nat.le_succ _)
theorem StR.ncell {c : Co} (I : StR w K T σ H G s) (hp : H p = none) (hc : ContR w K T (upd H p o) (G.cell p) p c) : StR w K T σ (upd H p o) (G.cell p) { s with sto := s.sto ++ [c] } := by
  have k : Kp H G (upd H p o) (G.cell p) := kp_cell hp
  have kk : ∀ a u, H a = some u → upd H p o a = some u := fun a u e => by rw [upd_ne (ne_of_none e hp)]; exact e
  have rp : ∀ n, n < G.n → G.rho n ≠ p := fun n h e => by
    obtain ⟨c, hc⟩ := I.cell h
    obtain ⟨u, h⟩ := (I.sto n c hc).1.some
    rw [e, hp] at h; cases h
  have hF : ¬ G.F p := fun z => by
    obtain ⟨u, h⟩ := I.frs p z
    rw [hp] at h; cases h
  refine ⟨I.len, fun i d h => ?_, fun i c h => ?_, I.oin, ?_, fun n c' h => ?_, fun n m hn hm e => ?_, fun i c n h hn => ?_, fun a h => let ⟨u, h⟩ := I.frs a h; ⟨u, kk a u h⟩⟩
  · obtain ⟨v, h1, h2⟩ := I.val i d h
    exact ⟨v, h1, h2.kp k⟩
  · obtain ⟨a, h1, h2, h3⟩ := I.own i c h
    exact ⟨a, h1, h2.kp k (kk a), h3⟩
  · show (s.sto ++ [c]).length = G.n + 1
    rw [List.length_append, I.cnt]
    rfl
  · by_cases hn : n < G.n
    · have h' : s.sto[n]? = some c' := by
        rw [List.getElem?_append_left (by rw [I.cnt]; exact hn)] at h
        exact h
      rw [Wd.cell_old hn]
      obtain ⟨h1, h2⟩ := I.sto n c' h'
      exact ⟨h1.kp k (kk _), h2⟩
    · have hn' : n = G.n := by
        have := (List.getElem?_eq_some_iff.mp h).1
        have e : (s.sto ++ [c]).length = G.n + 1 := by rw [List.length_append, I.cnt]; rfl
        have : n < (s.sto ++ [c]).length := this
        omega
      subst hn'
      have h' : c = c' := by
        have h2 : (s.sto ++ [c])[G.n]? = some c' := h
        rw [← I.cnt, List.getElem?_append_right (Nat.le_refl _), Nat.sub_self] at h2
        simpa using h2
      subst h'
      rw [Wd.cell_new]
      exact ⟨hc, hF⟩
  · have hn : n < G.n + 1 := hn
    have hm : m < G.n + 1 := hm
    by_cases en : n = G.n
    · by_cases em : m = G.n
      · rw [en, em]
      · rw [en, Wd.cell_new, Wd.cell_old (by omega)] at e
        exact absurd e.symm (rp m (by omega))
    · by_cases em : m = G.n
      · rw [em, Wd.cell_new, Wd.cell_old (by omega)] at e
        exact absurd e (rp n (by omega))
      · rw [Wd.cell_old (by omega), Wd.cell_old (by omega)] at e
        exact I.inj n m (by omega) (by omega) e
  · have hn : n < G.n + 1 := hn
    by_cases en : n = G.n
    · rw [en, Wd.cell_new]
      intro e
      obtain ⟨a, h1, h2, h3⟩ := I.own i c h
      rw [e] at h1; cases h1
      obtain ⟨u, h⟩ := h2.some
      rw [hp] at h; cases h
    · rw [Wd.cell_old (by omega)]
      exact I.sep i c n h (by omega)
theorem Stp.ncell {c : Co} (hp : H p = none) : Stp σ H G s σ (upd H p o) (G.cell p) { s with sto := s.sto ++ [c] } where
  keep := fun a u e _ => by rw [upd_ne (ne_of_none e hp)]; exact e
  fr := fun _ h => h
  rh := fun _ h => Wd.cell_old h
  le := Nat.le_succ _
  nf := fun a h => .inl h
  tc := fun a h => by
    rcases h with ⟨n, h, e⟩ | h
    · have h : n < G.n + 1 := h
      by_cases en : n = G.n
      · rw [en, Wd.cell_new] at e
        exact .inr (by rw [← e]; exact hp)
      · rw [Wd.cell_old (by omega)] at e
        exact .inl (.inl ⟨n, by omega, e⟩)
    · exact .inl (.inr h)
  wc := fun a h => by
    rcases h with ⟨n, h, e, nk⟩ | h
    · have h : n < G.n + 1 := h
      by_cases en : n = G.n
      · rw [en, Wd.cell_new] at e
        exact .inr (by rw [← e]; exact hp)
      · rw [Wd.cell_old (by omega)] at e
        refine .inl (.inl ⟨n, by omega, e, fun kvs z => nk kvs ?_⟩)
        show (s.sto ++ [c])[n]? = _
        rw [List.getElem?_append_left (List.getElem?_eq_some_iff.mp z).1]
        exact z
    · exact .inl (.inr h)
  dm := fun a h => by
    by_cases e : a = p
    · rw [e]; exact hp
    · rw [upd_ne e] at h; exact h
/-- an object that may be written is written -/
theorem kp_write (I : StR w K T σ H G s) (t : Tch σ G s a) : Kp H G (upd H a o) G := by
  obtain ⟨c, h1, h2⟩ := I.tch t
  have m := h1.mut
  refine ⟨fun _ h => h, fun b f u e => ?_, fun b vs h => ?_, fun b o' u h => ?_, fun _ _ => rfl, Nat.le_refl _⟩
  · rw [upd_ne (fun z => by rw [z] at f; exact h2 f)]; exact e
  · have n : b ≠ a := fun z => by rw [z] at h; exact not_tup_of_mut m h
    rcases h with h | ⟨u, h⟩
    · exact .inl (by rw [upd_ne n]; exact h)
    · exact .inr ⟨u, by rw [upd_ne n]; exact h⟩
  · have n : b ≠ a := fun z => by rw [z] at h; rw [h] at m; exact m
    rw [upd_ne n]; exact h
/-- the state with another content of a value in hand -/
def putCo (s : S) (c' : Co) : D → Option S
  | .cel n => match s.sto[n]? with
    | some (.K _) => none
    | some _ => some { s with sto := s.sto.set n c' }
    | none => none
  | .own i => match s.env[i]? with
    | some (.own _) => some { s with env := s.env.set i (.own c') }
    | _ => none
  | _ => none
theorem write_cell {n : Nat} {c' : Co} (I : StR w K T σ H G s) (hn : n < G.n) (hk : ∀ kvs, s.sto[n]? ≠ some (.K kvs)) (hc : Kp H G (upd H (G.rho n) o) G → ContR w K T (upd H (G.rho n) o) G (G.rho n) c') :
    StR w K T σ (upd H (G.rho n) o) G { s with sto := s.sto.set n c' } ∧ Stp σ H G s σ (upd H (G.rho n) o) G { s with sto := s.sto.set n c' } := by
  have tw : Wrt σ G s (G.rho n) := .inl ⟨n, hn, rfl, hk⟩
  have t : Tch σ G s (G.rho n) := tw.tch
  have k := kp_write (o := o) I t
  have hc' := hc k
  obtain ⟨c0, h0⟩ := I.cell hn
  have hF := (I.sto n c0 h0).2
  have dm : ∀ b u, H b = some u → ∃ u', upd H (G.rho n) o b = some u' := fun b u e => by
    by_cases z : b = G.rho n
    · rw [z]; exact ⟨_, upd_same⟩
    · rw [upd_ne z]; exact ⟨u, e⟩
  refine ⟨⟨I.len, fun i d h => ?_, fun i c h => ?_, I.oin, ?_, fun m c h => ?_, I.inj, I.sep, fun b h => let ⟨u, h⟩ := I.frs b h; dm b u h⟩, ⟨fun b u e nt => ?_, fun _ h => h, fun _ _ => rfl, Nat.le_refl _, fun _ h => .inl h, fun b h => .inl h, fun b h => ?_, fun b h => ?_⟩⟩
  · obtain ⟨v, h1, h2⟩ := I.val i d h
    exact ⟨v, h1, h2.kp k⟩
  · obtain ⟨b, h1, h2, h3⟩ := I.own i c h
    refine ⟨b, h1, h2.kp k fun u e => ?_, h3⟩
    rw [upd_ne (fun z => by rw [z] at h1; exact I.sep i c n h hn h1)]
    exact e
  · show (s.sto.set n c').length = G.n
    rw [List.length_set]; exact I.cnt
  · by_cases e : m = n
    · subst e
      have h' : c' = c := by
        have hl : m < s.sto.length := by rw [I.cnt]; exact hn
        have h2 : (s.sto.set m c')[m]? = some c := h
        rw [List.getElem?_set_self hl] at h2
        exact Option.some.inj h2
      subst h'
      exact ⟨hc', hF⟩
    · have h2 : (s.sto.set n c')[m]? = some c := h
      rw [List.getElem?_set_ne (Ne.symm e)] at h2
      obtain ⟨h3, h4⟩ := I.sto m c h2
      refine ⟨h3.kp k fun u q => ?_, h4⟩
      have hm : m < G.n := by rw [← I.cnt]; exact (List.getElem?_eq_some_iff.mp h2).1
      rw [upd_ne (fun z => e (I.inj m n hm hn z))]
      exact q
  · rw [upd_ne (fun z => by rw [z] at nt; exact nt tw)]; exact e
  · rcases h with ⟨m, hm, e, nk⟩ | h
    · by_cases z : m = n
      · rw [z] at e
        exact .inl (.inl ⟨n, hn, e, hk⟩)
      · refine .inl (.inl ⟨m, hm, e, fun kvs q => nk kvs ?_⟩)
        show (s.sto.set n c')[m]? = _
        rw [List.getElem?_set_ne (Ne.symm z)]
        exact q
    · exact .inl (.inr h)
  · by_cases e : b = G.rho n
    · rw [e, upd_same] at h; cases h
    · rw [upd_ne e] at h; exact h
theorem write_own {i : Nat} {c0 c' : Co} (I : StR w K T σ H G s) (h0 : s.env[i]? = some (.own c0)) (hi : σ[i]? = some (some (.ref a))) (hc : Kp H G (upd H a o) G → ContR w K T (upd H a o) G a c') :
    StR w K T σ (upd H a o) G { s with env := s.env.set i (.own c') } ∧ Stp σ H G s σ (upd H a o) G { s with env := s.env.set i (.own c') } := by
  have tw : Wrt σ G s a := .inr ⟨i, c0, h0, hi⟩
  have t : Tch σ G s a := tw.tch
  have k := kp_write (o := o) I t
  have hc' := hc k
  have hl : i < s.env.length := (List.getElem?_eq_some_iff.mp h0).1
  have get : ∀ j x, (s.env.set i (Slot.own c'))[j]? = some x → (j = i ∧ x = .own c') ∨ (j ≠ i ∧ s.env[j]? = some x) := fun j x h => by
    by_cases e : j = i
    · subst e
      rw [List.getElem?_set_self hl] at h
      exact .inl ⟨rfl, (Option.some.inj h).symm⟩
    · rw [List.getElem?_set_ne (Ne.symm e)] at h
      exact .inr ⟨e, h⟩
  have old : ∀ (j : Nat) (c : Co), (s.env.set i (Slot.own c'))[j]? = some (Slot.own c) → ∃ c1, s.env[j]? = some (Slot.own c1) := fun j c h => by
    rcases get j _ h with ⟨e, _⟩ | ⟨_, h⟩
    · rw [e]; exact ⟨_, h0⟩
    · exact ⟨_, h⟩
  have hF : ¬ G.F a := by
    obtain ⟨b, h1, _, h3⟩ := I.own i c0 h0
    rw [hi] at h1; cases h1
    exact h3
  have dm : ∀ b u, H b = some u → ∃ u', upd H a o b = some u' := fun b u e => by
    by_cases z : b = a
    · rw [z]; exact ⟨_, upd_same⟩
    · rw [upd_ne z]; exact ⟨u, e⟩
  refine ⟨⟨?_, fun j d h => ?_, fun j c h => ?_, fun j j' c c1 b h1 h2 e1 e2 => ?_, I.cnt, fun m c h => ?_, I.inj, fun j c n h hn => ?_, fun b h => let ⟨u, h⟩ := I.frs b h; dm b u h⟩, ⟨fun b u e nt => ?_, fun _ h => h, fun _ _ => rfl, Nat.le_refl _, fun _ h => .inl h, fun b h => ?_, fun b h => ?_, fun b h => ?_⟩⟩
  · show (s.env.set i _).length = _
    rw [List.length_set]; exact I.len
  · rcases get j _ h with ⟨_, e⟩ | ⟨_, h⟩
    · cases e
    · obtain ⟨v, h1, h2⟩ := I.val j d h
      exact ⟨v, h1, h2.kp k⟩
  · rcases get j _ h with ⟨e, q⟩ | ⟨ne, h⟩
    · cases q
      rw [e]
      exact ⟨a, hi, hc', hF⟩
    · obtain ⟨b, h1, h2, h3⟩ := I.own j c h
      refine ⟨b, h1, h2.kp k fun u e => ?_, h3⟩
      rw [upd_ne (fun z => ne (by rw [z] at h1; exact I.oin j i _ _ a h h0 h1 hi))]
      exact e
  · obtain ⟨_, q1⟩ := old j c h1
    obtain ⟨_, q2⟩ := old j' c1 h2
    exact I.oin j j' _ _ b q1 q2 e1 e2
  · obtain ⟨h1, h2⟩ := I.sto m c h
    refine ⟨h1.kp k fun u q => ?_, h2⟩
    have hm : m < G.n := by rw [← I.cnt]; exact (List.getElem?_eq_some_iff.mp h).1
    rw [upd_ne (fun z => I.sep i c0 m h0 hm (by rw [z]; exact hi))]
    exact q
  · obtain ⟨_, q1⟩ := old j c h
    exact I.sep j _ n q1 hn
  · rw [upd_ne (fun z => by rw [z] at nt; exact nt tw)]; exact e
  · rcases h with h | ⟨j, c, h, e⟩
    · exact .inl (.inl h)
    · obtain ⟨_, q1⟩ := old j c h
      exact .inl (.inr ⟨j, _, q1, e⟩)
  · rcases h with h | ⟨j, c, h, e⟩
    · exact .inl (.inl h)
    · obtain ⟨_, q1⟩ := old j c h
      exact .inl (.inr ⟨j, _, q1, e⟩)
  · by_cases e : b = a
    · rw [e, upd_same] at h; cases h
    · rw [upd_ne e] at h; exact h
/-- a write through a value in hand -/
theorem write_co {c0 c' : Co} (I : StR w K T σ H G s) (r : RepT w K σ H G s v d) (h0 : content s d = some c0) (h1 : putCo s c' d = some s') :
    ∃ a, v = .ref a ∧ ContR w K T H G a c0 ∧ ∀ o, (Kp H G (upd H a o) G → ContR w K T (upd H a o) G a c') → StR w K T σ (upd H a o) G s' ∧ Stp σ H G s σ (upd H a o) G s' := by
  have cell : ∀ n, Rep w K H G v (.cel n) → content s (.cel n) = some c0 → (match s.sto[n]? with | some (.K _) => none | some _ => some { s with sto := s.sto.set n c' } | none => none) = some s' →
      ∃ a, v = .ref a ∧ ContR w K T H G a c0 ∧ ∀ o, (Kp H G (upd H a o) G → ContR w K T (upd H a o) G a c') → StR w K T σ (upd H a o) G s' ∧ Stp σ H G s σ (upd H a o) G s' := fun n r h0 h1 => by
    cases r with
    | cel hn =>
      split at h1
      · cases h1
      · rename_i c1 e1 nk
        cases h1
        have h0' : c1 = c0 := by
          have h0 : unK s.sto[n]? = some c0 := h0
          rw [nk] at h0
          unfold unK at h0
          split at h0
          · rename_i z; cases z; exact absurd rfl (e1 _)
          · exact Option.some.inj h0
        subst h0'
        exact ⟨_, rfl, (I.sto n _ nk).1, fun o hc => write_cell I hn (fun kvs z => by rw [nk] at z; cases z; exact e1 _ rfl) hc⟩
      · cases h1
  cases d with
  | cel n => exact cell n r h0 h1
  | own i =>
    obtain ⟨hv, x, hx⟩ := r
    simp only [content, hx] at h0
    simp only [putCo, hx] at h1
    cases x with
    | emp => cases h1
    | own c =>
      cases h0
      cases h1
      obtain ⟨a, ha, h2, _⟩ := I.own i _ hx
      rw [hv] at ha; cases ha
      exact ⟨a, rfl, h2, fun o hc => write_own I hx hv hc⟩
    | val d' => cases h1
  | _ => cases h1
/-- what a slot owns is frozen: from then on it is a value -/
def coD : Co → Option D
  | .L xs => some (.lst xs)
  | .M kvs => some (.dct kvs)
  | .I _ _ => none
  | .K _ => none
def settle (d : D) : Ex := fun s => match d with
  | .own i => match s.env[i]? with
    | some (.own c) => match coD c with
      | some d' => .ok d' { s with env := s.env.set i (.val d') }
      | none => .bad
    | some (.val d') => .ok d' s
    | _ => .bad
  | d => .ok d s
theorem freeze_own {i : Nat} {c : Co} {d' : D} (I : StR w K T σ H G s) (h0 : s.env[i]? = some (.own c)) (hi : σ[i]? = some (some (.ref a))) (hd : coD c = some d') :
    StR w K T σ H { G with F := fun b => G.F b ∨ b = a } { s with env := s.env.set i (.val d') } ∧ Stp σ H G s σ H { G with F := fun b => G.F b ∨ b = a } { s with env := s.env.set i (.val d') } ∧ Rep w K H { G with F := fun b => G.F b ∨ b = a } (.ref a) d' := by
  have k : Kp H G H { G with F := fun b => G.F b ∨ b = a } := by
    refine ⟨fun _ h => .inl h, fun b _ u e => e, fun b vs h => h, fun b o u h => h, fun _ _ => rfl, Nat.le_refl _⟩
  have hl : i < s.env.length := (List.getElem?_eq_some_iff.mp h0).1
  have get : ∀ j x, (s.env.set i (Slot.val d'))[j]? = some x → (j = i ∧ x = .val d') ∨ (j ≠ i ∧ s.env[j]? = some x) := fun j x h => by
    by_cases e : j = i
    · subst e
      rw [List.getElem?_set_self hl] at h
      exact .inl ⟨rfl, (Option.some.inj h).symm⟩
    · rw [List.getElem?_set_ne (Ne.symm e)] at h
      exact .inr ⟨e, h⟩
  have old : ∀ (j : Nat) (c : Co), (s.env.set i (Slot.val d'))[j]? = some (Slot.own c) → s.env[j]? = some (Slot.own c) ∧ j ≠ i := fun j c h => by
    rcases get j _ h with ⟨_, e⟩ | ⟨e, h⟩
    · cases e
    · exact ⟨h, e⟩
  obtain ⟨b, e1, hc, hF⟩ := I.own i c h0
  rw [hi] at e1; cases e1
  have rep : Rep w K H { G with F := fun b => G.F b ∨ b = a } (.ref a) d' := by
    cases c with
    | L xs =>
      cases hd
      obtain ⟨vs, h1, h2⟩ := hc
      exact .lst (.inr rfl) h1 (h2.kp k)
    | M kvs =>
      cases hd
      obtain ⟨es, h1, h2, h3⟩ := hc
      exact .dct (.inr rfl) h1 (h2.kp k) h3
    | I c fs => cases hd
    | K kvs => cases hd
  refine ⟨⟨?_, fun j d h => ?_, fun j c h => ?_, fun j j' c c1 b h1 h2 e1 e2 => ?_, I.cnt, fun m c h => ?_, I.inj, fun j c n h hn => ?_, fun b h => h.elim (I.frs b) fun z => by rw [z]; exact hc.some⟩, ⟨fun b u e nt => e, fun _ h => .inl h, fun _ _ => rfl, Nat.le_refl _, fun b h => ?_, fun b h => ?_, fun b h => ?_, fun b h => h⟩, rep⟩
  · show (s.env.set i _).length = _
    rw [List.length_set]; exact I.len
  · rcases get j _ h with ⟨e, q⟩ | ⟨_, h⟩
    · cases q
      rw [e]
      exact ⟨_, hi, rep⟩
    · obtain ⟨v, h1, h2⟩ := I.val j d h
      exact ⟨v, h1, h2.kp k⟩
  · obtain ⟨h, ne⟩ := old j c h
    obtain ⟨b, h1, h2, h3⟩ := I.own j c h
    refine ⟨b, h1, h2.kp k fun u e => e, fun z => ?_⟩
    rcases z with z | z
    · exact h3 z
    · exact ne (by rw [z] at h1; exact I.oin j i _ _ a h h0 h1 hi)
  · exact I.oin j j' _ _ b (old j c h1).1 (old j' c1 h2).1 e1 e2
  · obtain ⟨h1, h2⟩ := I.sto m c h
    refine ⟨h1.kp k fun u q => q, fun z => ?_⟩
    rcases z with z | z
    · exact h2 z
    · have hm : m < G.n := by rw [← I.cnt]; exact (List.getElem?_eq_some_iff.mp h).1
      exact I.sep i _ m h0 hm (by rw [z]; exact hi)
  · exact I.sep j _ n (old j c h).1 hn
  · rcases h with h | h
    · exact .inl h
    · exact .inr (.inr (.inr ⟨i, c, h0, by rw [h]; exact hi⟩))
  · rcases h with h | ⟨j, c, h, e⟩
    · exact .inl (.inl h)
    · exact .inl (.inr ⟨j, c, (old j c h).1, e⟩)
  · rcases h with h | ⟨j, c, h, e⟩
    · exact .inl (.inl h)
    · exact .inl (.inr ⟨j, c, (old j c h).1, e⟩)
end
end G

set_option Elab.async false
set_option linter.all false
set_option maxRecDepth 100000
set_option maxHeartbeats 4000000
namespace G
open PySem PySem.Spec PyProof.Rows L2

section
variable (w : World) (K : PySem.W.Frag) (T : Tb)
/-- what is wanted behind: a value by value, a value in hand, a truth, a list of values, an exception -/
def PV (Q : VK) (σ : Sg) (H : Hp) (G : Wd) (s : S) (d : D) (s' : S) : Prop := ∀ H' G' v, Stp σ H G s σ H' G' s' → StR w K T σ H' G' s' → Rep w K H' G' v d → Q v H'
def PO (Q : VK) (σ : Sg) (H : Hp) (G : Wd) (s : S) (d : D) (s' : S) : Prop := ∀ H' G' v, Stp σ H G s σ H' G' s' → StR w K T σ H' G' s' → RepT w K σ H' G' s' v d → Q v H'
def PB (Q : Bool → Hp → Prop) (σ : Sg) (H : Hp) (G : Wd) (s : S) (b : Bool) (s' : S) : Prop := ∀ H' G', Stp σ H G s σ H' G' s' → StR w K T σ H' G' s' → Q b H'
def PL (Q : List V → Hp → Prop) (σ : Sg) (H : Hp) (G : Wd) (s : S) (ds : List D) (s' : S) : Prop := ∀ H' G' vs, Stp σ H G s σ H' G' s' → StR w K T σ H' G' s' → RepL w K H' G' vs ds → Q vs H'
def PX (W : Wi) (σ : Sg) (H : Hp) (G : Wd) (s : S) (c : Nat) (d : D) (s' : S) : Prop := W.may ∧ ∀ H' G', Stp σ H G s σ H' G' s' → StR w K T σ H' G' s' → W.is c d σ H' G' s'
variable (W : Wi)
/-- a functional reading as HandS reads -/
def tV (f : Ex) : TE := fun σ H Q => ∃ G s, StR w K T σ H G s ∧ (f s).holds (PV w K T Q σ H G s) (PX w K T W σ H G s)
def tO (f : Ex) : TE := fun σ H Q => ∃ G s, StR w K T σ H G s ∧ (f s).holds (PO w K T Q σ H G s) (PX w K T W σ H G s)
def tB (f : Tx) : TT := fun σ H Q => ∃ G s, StR w K T σ H G s ∧ (f s).holds (PB w K T Q σ H G s) (PX w K T W σ H G s)
def tL (f : Ax) : TA := fun σ H Q => ∃ G s, StR w K T σ H G s ∧ (f s).holds (PL w K T Q σ H G s) (PX w K T W σ H G s)
end

section
variable {w : World} {K : PySem.W.Frag} {T : Tb} {W : Wi} {σ : Sg} {H H1 : Hp} {G G1 : Wd} {s s1 s' : S} {d : D} {v : V}
theorem PV.tr {Q : VK} (b : Stp σ H G s σ H1 G1 s1) (h : PV w K T Q σ H G s d s') : PV w K T Q σ H1 G1 s1 d s' := fun H' G' v b' J r => h H' G' v (b.trans b') J r
theorem PO.tr {Q : VK} (b : Stp σ H G s σ H1 G1 s1) (h : PO w K T Q σ H G s d s') : PO w K T Q σ H1 G1 s1 d s' := fun H' G' v b' J r => h H' G' v (b.trans b') J r
theorem PB.tr {Q : Bool → Hp → Prop} {c : Bool} (b : Stp σ H G s σ H1 G1 s1) (h : PB w K T Q σ H G s c s') : PB w K T Q σ H1 G1 s1 c s' := fun H' G' b' J => h H' G' (b.trans b') J
theorem PL.tr {Q : List V → Hp → Prop} {c : List D} (b : Stp σ H G s σ H1 G1 s1) (h : PL w K T Q σ H G s c s') : PL w K T Q σ H1 G1 s1 c s' := fun H' G' v b' J r => h H' G' v (b.trans b') J r
theorem PX.tr {c : Nat} (b : Stp σ H G s σ H1 G1 s1) (h : PX w K T W σ H G s c d s') : PX w K T W σ H1 G1 s1 c d s' := ⟨h.1, fun H' G' b' J => h.2 H' G' (b.trans b') J⟩
theorem hV {Q : VK} {r : R D} (b : Stp σ H G s σ H1 G1 s1) (h : r.holds (PV w K T Q σ H G s) (PX w K T W σ H G s)) : r.holds (PV w K T Q σ H1 G1 s1) (PX w K T W σ H1 G1 s1) := R.holds_mono h (fun _ _ => PV.tr b) (fun _ _ _ => PX.tr b)
theorem hO {Q : VK} {r : R D} (b : Stp σ H G s σ H1 G1 s1) (h : r.holds (PO w K T Q σ H G s) (PX w K T W σ H G s)) : r.holds (PO w K T Q σ H1 G1 s1) (PX w K T W σ H1 G1 s1) := R.holds_mono h (fun _ _ => PO.tr b) (fun _ _ _ => PX.tr b)
theorem hB {Q : Bool → Hp → Prop} {r : R Bool} (b : Stp σ H G s σ H1 G1 s1) (h : r.holds (PB w K T Q σ H G s) (PX w K T W σ H G s)) : r.holds (PB w K T Q σ H1 G1 s1) (PX w K T W σ H1 G1 s1) := R.holds_mono h (fun _ _ => PB.tr b) (fun _ _ _ => PX.tr b)
theorem hL {Q : List V → Hp → Prop} {r : R (List D)} (b : Stp σ H G s σ H1 G1 s1) (h : r.holds (PL w K T Q σ H G s) (PX w K T W σ H G s)) : r.holds (PL w K T Q σ H1 G1 s1) (PX w K T W σ H1 G1 s1) := R.holds_mono h (fun _ _ => PL.tr b) (fun _ _ _ => PX.tr b)
/-- first f, then g -/
theorem tV_bind {α : Type} {f : Ex} {r : D → S → R α} {P : α → S → Prop} {Q1 : VK} (I : StR w K T σ H G s) (h : ((f s).bind r).holds P (PX w K T W σ H G s))
    (k : ∀ d s1 H1 G1 v, Stp σ H G s σ H1 G1 s1 → StR w K T σ H1 G1 s1 → Rep w K H1 G1 v d → (r d s1).holds P (PX w K T W σ H G s) → Q1 v H1) : tV w K T W f σ H Q1 := by
  refine ⟨G, s, I, ?_⟩
  cases e : f s with
  | ok d s1 => rw [e] at h; exact fun H1 G1 v b J q => k d s1 H1 G1 v b J q h
  | exc c d s1 => rw [e] at h; exact h
  | bad => rw [e] at h; exact h
theorem tO_bind {α : Type} {f : Ex} {r : D → S → R α} {P : α → S → Prop} {Q1 : VK} (I : StR w K T σ H G s) (h : ((f s).bind r).holds P (PX w K T W σ H G s))
    (k : ∀ d s1 H1 G1 v, Stp σ H G s σ H1 G1 s1 → StR w K T σ H1 G1 s1 → RepT w K σ H1 G1 s1 v d → (r d s1).holds P (PX w K T W σ H G s) → Q1 v H1) : tO w K T W f σ H Q1 := by
  refine ⟨G, s, I, ?_⟩
  cases e : f s with
  | ok d s1 => rw [e] at h; exact fun H1 G1 v b J q => k d s1 H1 G1 v b J q h
  | exc c d s1 => rw [e] at h; exact h
  | bad => rw [e] at h; exact h
theorem tB_bind {α : Type} {f : Tx} {r : Bool → S → R α} {P : α → S → Prop} {Q1 : Bool → Hp → Prop} (I : StR w K T σ H G s) (h : ((f s).bind r).holds P (PX w K T W σ H G s))
    (k : ∀ d s1 H1 G1, Stp σ H G s σ H1 G1 s1 → StR w K T σ H1 G1 s1 → (r d s1).holds P (PX w K T W σ H G s) → Q1 d H1) : tB w K T W f σ H Q1 := by
  refine ⟨G, s, I, ?_⟩
  cases e : f s with
  | ok d s1 => rw [e] at h; exact fun H1 G1 b J => k d s1 H1 G1 b J h
  | exc c d s1 => rw [e] at h; exact h
  | bad => rw [e] at h; exact h
theorem tL_bind {α : Type} {f : Ax} {r : List D → S → R α} {P : α → S → Prop} {Q1 : List V → Hp → Prop} (I : StR w K T σ H G s) (h : ((f s).bind r).holds P (PX w K T W σ H G s))
    (k : ∀ d s1 H1 G1 v, Stp σ H G s σ H1 G1 s1 → StR w K T σ H1 G1 s1 → RepL w K H1 G1 v d → (r d s1).holds P (PX w K T W σ H G s) → Q1 v H1) : tL w K T W f σ H Q1 := by
  refine ⟨G, s, I, ?_⟩
  cases e : f s with
  | ok d s1 => rw [e] at h; exact fun H1 G1 v b J q => k d s1 H1 G1 v b J q h
  | exc c d s1 => rw [e] at h; exact h
  | bad => rw [e] at h; exact h
end

/-- an expression's functional reading: by value; in hand; a test's; an argument list's -/
def SV (X : Cx) (T : Tb) (W : Wi) (e : Expr) (f : Ex) : Prop := PE X e (tV X.w X.K T W f)
def SO (X : Cx) (T : Tb) (W : Wi) (e : Expr) (f : Ex) : Prop := PE X e (tO X.w X.K T W f)
def ST (X : Cx) (T : Tb) (W : Wi) (e : Expr) (f : Tx) : Prop := PT X e (tB X.w X.K T W f)
def SW (X : Cx) (T : Tb) (W : Wi) (e : Expr) (f : Tx) : Prop := PW X e (tB X.w X.K T W f)
def SL (X : Cx) (T : Tb) (W : Wi) (es : List Expr) (f : Ax) : Prop := PA X es (tL X.w X.K T W f)

theorem PE.imp {X : Cx} {e : Expr} {t t' : TE} (h : PE X e t) (i : ∀ σ H Q, t' σ H Q → t σ H Q) : PE X e t' := ⟨fun pins s σ H Q I q => h.run pins s σ H Q I (i σ H Q q)⟩
theorem PT.imp {X : Cx} {e : Expr} {t t' : TT} (h : PT X e t) (i : ∀ σ H Q, t' σ H Q → t σ H Q) : PT X e t' := ⟨fun pins s σ H Q I q => h.run pins s σ H Q I (i σ H Q q)⟩
theorem PW.imp {X : Cx} {e : Expr} {t t' : TT} (h : PW X e t) (i : ∀ σ H Q, t' σ H Q → t σ H Q) : PW X e t' := ⟨fun wh pins s σ H Q I q => h.run wh pins s σ H Q I (i σ H Q q)⟩
theorem PA.imp {X : Cx} {e : List Expr} {t t' : TA} (h : PA X e t) (i : ∀ σ H Q, t' σ H Q → t σ H Q) : PA X e t' := ⟨fun pos pins s σ H Q I q => h.run pos pins s σ H Q I (i σ H Q q)⟩

section
variable {X : Cx} {T : Tb} {W : Wi} {pos : Pos}
theorem SV.so {e : Expr} {f : Ex} (h : SV X T W e f) : SO X T W e f := by
  refine PE.imp h fun σ H Q ⟨G, s, I, q⟩ => ⟨G, s, I, R.holds_mono q (fun d s' p H' G' v b J r => p H' G' v b J (RepT.of r)) fun _ _ _ p => p⟩
theorem settle_holds {w : World} {K : PySem.W.Frag} {σ : Sg} {H : Hp} {G : Wd} {s : S} {v : V} {d : D} {Q : VK} (I : StR w K T σ H G s) (r : RepT w K σ H G s v d)
    (h : (settle d s).holds (PV w K T Q σ H G s) (PX w K T W σ H G s)) : Q v H := by
  cases d with
  | own i =>
    obtain ⟨hv, x, hx⟩ := r
    simp only [settle, hx] at h
    cases x with
    | emp => exact h.elim
    | own c =>
      obtain ⟨a, ha, _, _⟩ := I.own i c hx
      rw [hv] at ha; cases ha
      cases hd : coD c with
      | none => simp only [hd] at h; exact h.elim
      | some d' =>
        simp only [hd] at h
        obtain ⟨J, b, r⟩ := freeze_own I hx hv hd
        exact h _ _ _ b J r
    | val d' =>
      obtain ⟨u, hu, r⟩ := I.val i d' hx
      rw [hv] at hu; cases hu
      exact h _ _ _ Stp.refl I r
  | _ => exact h _ _ _ Stp.refl I r
def thenS (f : Ex) : Ex := fun s => (f s).bind settle
theorem SO.sv {e : Expr} {f : Ex} (h : SO X T W e f) : SV X T W e (thenS f) := by
  refine PE.imp h fun σ H Q ⟨G, s, I, q⟩ => ?_
  refine tO_bind I q fun d s1 H1 G1 v b J r q => settle_holds J r (hV b q)

/-! ### names, constants -/
def nameO (i : Nat) : Ex := fun s => match s.env[i]? with
  | some (.val d) => .ok d s
  | some (.own _) => .ok (.own i) s
  | _ => .bad
theorem so_name {i : Nat} {x : Str} (hN : X.N[i]? = some x) (hv : Vis X.env.scope x) (hd : (x == ("__debug__" : Str)) = false := by decide) (hcd : (x == ("__classdict__" : Str)) = false := by decide) : SO X T W (.Name x pos) (nameO i) := by
  refine PE.imp (pe_var hN hv hd hcd) fun σ H Q ⟨G, s, I, q⟩ => ?_
  unfold nameO at q
  cases e : s.env[i]? with
  | none => rw [e] at q; exact q.elim
  | some y =>
    rw [e] at q
    cases y with
    | emp => exact q.elim
    | val d =>
      obtain ⟨v, h1, h2⟩ := I.val i d e
      exact ⟨v, h1, q _ _ _ Stp.refl I (RepT.of h2)⟩
    | own c =>
      obtain ⟨a, h1, _, _⟩ := I.own i c e
      exact ⟨_, h1, q _ _ _ Stp.refl I ⟨h1, _, e⟩⟩
def nameV (i : Nat) : Ex := thenS (nameO i)
theorem sv_name {i : Nat} {x : Str} (hN : X.N[i]? = some x) (hv : Vis X.env.scope x) (hd : (x == ("__debug__" : Str)) = false := by decide) (hcd : (x == ("__classdict__" : Str)) = false := by decide) : SV X T W (.Name x pos) (nameV i) := (so_name hN hv hd hcd).sv
def constE (d : D) : Ex := fun s => .ok d s
theorem tV_const {w : World} {K : PySem.W.Frag} {v : V} {d : D} {σ : Sg} {H : Hp} {Q : VK} (hr : ∀ H G, Rep w K H G v d) (h : tV w K T W (constE d) σ H Q) : Q v H := by
  obtain ⟨G, s, I, q⟩ := h
  exact q _ _ _ Stp.refl I (hr _ _)
theorem sv_int {i j} : SV X T W (.Constant (.int i) j pos) (constE (.int i)) := PE.imp pe_int fun σ H Q h => tV_const (fun _ _ => .int i) h
theorem sv_bl {b j} : SV X T W (.Constant (.bool b) j pos) (constE (.bl b)) := PE.imp pe_bl fun σ H Q h => tV_const (fun _ _ => .bl b) h
theorem sv_non {j} : SV X T W (.Constant .none j pos) (constE .non) := PE.imp pe_non fun σ H Q h => tV_const (fun _ _ => .non) h
theorem sv_str {x : Str} {cs : List Nat} {j} (hx : x.cps.toList = cs) : SV X T W (.Constant (.str x) j pos) (constE (.str cs)) := PE.imp pe_str fun σ H Q h => tV_const (fun _ _ => by
  have e : x = toStr cs := by
    subst hx
    rfl
  rw [e]
  exact .str cs) h
theorem sv_glob {x : Str} {v : V} {u : Value} {d : D} (hg : Gl X x) (hm : X.mg x = some u) (r : RelV v u) (hr : ∀ H G, Rep X.w X.K H G v d) (hd : (x == ("__debug__" : Str)) = false := by decide) : SV X T W (.Name x pos) (constE d) :=
  PE.imp (pe_glob hg hm r hd) fun σ H Q h => tV_const hr h

/-! ### argument lists, displays -/
def nilA : Ax := fun s => .ok [] s
def consA (f : Ex) (fs : Ax) : Ax := fun s => (f s).bind fun d s => (fs s).bind fun ds s => .ok (d :: ds) s
theorem sl_nil : SL X T W [] nilA := PA.imp pa_nil fun σ H Q ⟨G, s, I, q⟩ => q _ _ _ Stp.refl I .nil
theorem sl_cons {e : Expr} {es : List Expr} {f : Ex} {fs : Ax} (h : SV X T W e f) (hs : SL X T W es fs) (hst : starEach (e :: es) X.env = (false, eval e X.env) :: starEach es X.env := by rfl) : SL X T W (e :: es) (consA f fs) := by
  refine PA.imp (pa_cons h hs hst) fun σ H Q ⟨G, s, I, q⟩ => ?_
  refine tV_bind I q fun d s1 H1 G1 v b J r q => ?_
  refine tL_bind J (hL b q) fun ds s2 H2 G2 vs b2 J2 r2 q2 => ?_
  exact q2 _ _ _ b2 J2 (.cons (r.kp (J.kp b2)) r2)
/-- the most items -/
def line : Nat := 16777216
theorem line_eq : sizeLine = line := by rw [sizeLine_eq]; rfl
/-- a new list, a new tuple, by value -/
def tupE (fs : Ax) : Ex := fun s => (fs s).bind fun ds s => if ds.length ≤ line then .ok (.tup ds) s else .bad
theorem sv_tup {es : List Expr} {fs : Ax} {x1} (h : SL X T W es fs) : SV X T W (.Tuple es x1 pos) (tupE fs) := by
  refine PE.imp (pe_tup h) fun σ H Q ⟨G, s, I, q⟩ => ?_
  refine tL_bind I q fun ds s1 H1 G1 vs b J r q => ?_
  split at q
  · rename_i hl
    refine ⟨by rw [r.length, line_eq]; exact hl, fun p hp => ?_⟩
    exact q _ _ _ (b.trans (Stp.fresh hp)) (J.fresh hp) (.tup (.inl (.inl upd_same)) (r.kp (J.kp (Stp.fresh hp))))
  · exact q.elim
def lstE (fs : Ax) : Ex := fun s => (fs s).bind fun ds s => if ds.length ≤ line then .ok (.lst ds) s else .bad
theorem sv_lst {es : List Expr} {fs : Ax} (h : SL X T W es fs) : SV X T W (.List es pos) (lstE fs) := by
  refine PE.imp (pe_lst h) fun σ H Q ⟨G, s, I, q⟩ => ?_
  refine tL_bind I q fun ds s1 H1 G1 vs b J r q => ?_
  split at q
  · rename_i hl
    refine ⟨by rw [r.length, line_eq]; exact hl, fun p hp => ?_⟩
    exact q _ _ _ (b.trans (Stp.fresh hp)) (J.fresh hp) (.lst (.inr rfl) upd_same (r.kp (J.kp (Stp.fresh hp))))
  · exact q.elim
/-- a new list as a cell -/
def lstC (fs : Ax) : Ex := fun s => (fs s).bind fun ds s => if ds.length ≤ line then .ok (.cel s.sto.length) { s with sto := s.sto ++ [.L ds] } else .bad
/-- nothing that is not there is frozen -/
theorem notF {w : World} {K : PySem.W.Frag} {σ : Sg} {H : Hp} {G : Wd} {s : S} (I : StR w K T σ H G s) : True := trivial
end
end G

set_option Elab.async false
set_option linter.all false
set_option maxRecDepth 100000
set_option maxHeartbeats 4000000
namespace G
open PySem PySem.Spec PyProof.Rows L2

/-! ### data -/
def codeOk (x : List Nat) : Bool := x.all fun c => decide (c < 1114112)
/-- plain data, nested at most so deep -/
def dat : Nat → D → Bool
  | _, .non => true
  | _, .bl _ => true
  | _, .int _ => true
  | _, .str x => codeOk x
  | n + 1, .lst xs => xs.all (dat n)
  | n + 1, .tup xs => xs.all (dat n)
  | _, _ => false
mutual
def py : D → PyData
  | .non => .none
  | .bl b => .bool b
  | .int i => .int i
  | .str x => .str (toStr x)
  | .lst xs => .list (pys xs)
  | .tup xs => .tuple (pys xs)
  | _ => .none
def pys : List D → List PyData
  | [] => []
  | x :: xs => py x :: pys xs
end
mutual
/-- == -/
def pyEq : D → D → Bool
  | .non, .non => true
  | .bl a, .bl b => a == b
  | .bl a, .int j => decide ((if a then (1 : Int) else 0) = j)
  | .int i, .bl b => decide (i = if b then (1 : Int) else 0)
  | .int i, .int j => decide (i = j)
  | .str x, .str y => decide (x = y)
  | .lst xs, .lst ys => pyEqs xs ys
  | .tup xs, .tup ys => pyEqs xs ys
  | _, _ => false
def pyEqs : List D → List D → Bool
  | [], [] => true
  | x :: xs, y :: ys => pyEq x y && pyEqs xs ys
  | _, _ => false
end
theorem strOk_toStr (x : List Nat) : PyData.strOk (toStr x) = codeOk x := by
  unfold PyData.strOk codeOk toStr
  simp
theorem toStr_beq (x y : List Nat) : (toStr x == toStr y) = decide (x = y) := by
  by_cases h : x = y
  · subst h; simp
  · have : ¬ toStr x = toStr y := fun e => h (toStr_inj e)
    simp [h, this]
theorem dat_canLay : ∀ (n : Nat) (d : D), dat n d = true → (py d).canLay0 = true ∧ (py d).depth ≤ n
  | _, .non, _ => ⟨rfl, Nat.zero_le _⟩
  | _, .bl _, _ => ⟨rfl, Nat.zero_le _⟩
  | _, .int _, _ => ⟨rfl, Nat.zero_le _⟩
  | n, .str x, h => by
    have h' : codeOk x = true := by cases n <;> exact h
    exact ⟨by simp only [py, PyData.canLay0]; rw [strOk_toStr]; exact h', Nat.zero_le _⟩
  | 0, .lst _, h => by cases h
  | 0, .tup _, h => by cases h
  | n + 1, .lst xs, h => by
    have all : ∀ ys : List D, ys.all (dat n) = true → PyData.canLayAll0 (pys ys) = true ∧ PyData.depthAll (pys ys) ≤ n := fun ys => by
      induction ys with
      | nil => exact fun _ => ⟨rfl, Nat.zero_le _⟩
      | cons y ys ih =>
        intro h
        rw [List.all_cons, Bool.and_eq_true] at h
        have h1 := dat_canLay n y h.1
        have h2 := ih h.2
        simp only [pys, PyData.canLayAll0, PyData.depthAll, h1.1, h2.1]
        exact ⟨rfl, Nat.max_le.mpr ⟨h1.2, h2.2⟩⟩
    have := all xs h
    simp only [py, PyData.canLay0, PyData.depth]
    exact ⟨this.1, Nat.succ_le_succ this.2⟩
  | n + 1, .tup xs, h => by
    have all : ∀ ys : List D, ys.all (dat n) = true → PyData.canLayAll0 (pys ys) = true ∧ PyData.depthAll (pys ys) ≤ n := fun ys => by
      induction ys with
      | nil => exact fun _ => ⟨rfl, Nat.zero_le _⟩
      | cons y ys ih =>
        intro h
        rw [List.all_cons, Bool.and_eq_true] at h
        have h1 := dat_canLay n y h.1
        have h2 := ih h.2
        simp only [pys, PyData.canLayAll0, PyData.depthAll, h1.1, h2.1]
        exact ⟨rfl, Nat.max_le.mpr ⟨h1.2, h2.2⟩⟩
    have := all xs h
    simp only [py, PyData.canLay0, PyData.depth]
    exact ⟨this.1, Nat.succ_le_succ this.2⟩
  | 0, .dct _, h => by cases h
  | _ + 1, .dct _, h => by cases h
  | 0, .cel _, h => by cases h
  | _ + 1, .cel _, h => by cases h
  | 0, .own _, h => by cases h
  | _ + 1, .own _, h => by cases h
  | 0, .scr _, h => by cases h
  | _ + 1, .scr _, h => by cases h
theorem dat_shaped {d : D} (h : dat 60 d = true) : SeqAt.shaped (py d) = true := by
  obtain ⟨h1, h2⟩ := dat_canLay 60 d h
  unfold SeqAt.shaped
  rw [h1, decide_eq_true (Nat.le_trans h2 (by decide))]
  rfl
mutual
theorem pyEq_eqv : ∀ (d e : D) (n : Nat), dat n d = true → dat n e = true → PyData.eqv (py d) (py e) = pyEq d e
  | .non, e, n, _, he => by
    cases e <;> first | rfl | (cases n <;> cases he)
  | .bl a, e, n, _, he => by
    cases e <;> first | rfl | (cases n <;> cases he) | (simp only [py, PyData.eqv, pyEq]; rw [Bool.beq_eq_decide_eq])
  | .int a, e, n, _, he => by
    cases e <;> first | rfl | (cases n <;> cases he) | (simp only [py, PyData.eqv, pyEq]; rw [Bool.beq_eq_decide_eq])
  | .str a, e, n, _, he => by
    cases e <;> first | rfl | (cases n <;> cases he) | (simp only [py, PyData.eqv, pyEq]; exact toStr_beq _ _)
  | .lst xs, e, n, hd, he => by
    cases e with
    | lst ys =>
      cases n with
      | zero => cases hd
      | succ n => exact pyEqs_eqv xs ys n hd he
    | _ => first | rfl | (cases n <;> cases he)
  | .tup xs, e, n, hd, he => by
    cases e with
    | tup ys =>
      cases n with
      | zero => cases hd
      | succ n => exact pyEqs_eqv xs ys n hd he
    | _ => first | rfl | (cases n <;> cases he)
  | .dct _, _, n, hd, _ => by cases n <;> cases hd
  | .cel _, _, n, hd, _ => by cases n <;> cases hd
  | .own _, _, n, hd, _ => by cases n <;> cases hd
  | .scr _, _, n, hd, _ => by cases n <;> cases hd
theorem pyEqs_eqv : ∀ (xs ys : List D) (n : Nat), xs.all (dat n) = true → ys.all (dat n) = true → PyData.eqvAll (pys xs) (pys ys) = pyEqs xs ys
  | [], ys, _, _, _ => by cases ys <;> rfl
  | x :: xs, ys, n, hx, hy => by
    cases ys with
    | nil => rfl
    | cons y ys =>
      rw [List.all_cons, Bool.and_eq_true] at hx hy
      simp only [pys, PyData.eqvAll, pyEqs]
      rw [pyEq_eqv x y n hx.1 hy.1, pyEqs_eqv xs ys n hx.2 hy.2]
end
section
variable {w : World} {K : PySem.W.Frag} {T : Tb} {σ : Sg} {H : Hp} {G : Wd} {s : S}
mutual
theorem Rep.dp : ∀ (n : Nat) {v : V} {d : D}, Rep w K H G v d → dat n d = true → Dp K H v (py d)
  | _, _, _, .non, _ => .non
  | _, _, _, .bl b, _ => .bl b
  | _, _, _, .int i, _ => .int i
  | _, _, _, .str x, _ => .str _
  | 0, _, _, .lst _ _ _, h => by cases h
  | 0, _, _, .tup _ _, h => by cases h
  | n + 1, _, _, .lst f q r, h => .lst (.inl (.inl q)) (RepL.dp n r h)
  | n + 1, _, _, .tup q r, h => .tup q (RepL.dp n r h)
  | 0, _, _, .dct .., h => by cases h
  | _ + 1, _, _, .dct .., h => by cases h
  | 0, _, _, .cel _, h => by cases h
  | _ + 1, _, _, .cel _, h => by cases h
  | 0, _, _, .scr _, h => by cases h
  | _ + 1, _, _, .scr _, h => by cases h
theorem RepL.dp : ∀ (n : Nat) {vs : List V} {ds : List D}, RepL w K H G vs ds → ds.all (dat n) = true → DpAll K H vs (pys ds)
  | _, _, _, .nil, _ => .nil
  | n, _, _, .cons r q, h => by
    rw [List.all_cons, Bool.and_eq_true] at h
    exact .cons (Rep.dp n r h.1) (RepL.dp n q h.2)
end
/-- a value in hand, the lists that are cells told by value, so deep -/
def viewN : Nat → S → D → D
  | 0, _, d => d
  | n + 1, s, .cel m => (match content s (.cel m) with
    | some (.L xs) => .lst (xs.map (viewN n s))
    | _ => .cel m)
  | n + 1, s, .own m => (match content s (.own m) with
    | some (.L xs) => .lst (xs.map (viewN n s))
    | _ => .own m)
  | n + 1, s, .lst xs => .lst (xs.map (viewN n s))
  | n + 1, s, .tup xs => .tup (xs.map (viewN n s))
  | _ + 1, _, d => d
def view (s : S) (d : D) : D := viewN 60 s d
theorem RepL.dpv {s : S} {m : Nat} (hm : ∀ (n : Nat) {v : V} {d : D}, Rep w K H G v d → dat n (viewN m s d) = true → Dp K H v (py (viewN m s d))) (n : Nat) : ∀ {vs : List V} {ds : List D}, RepL w K H G vs ds → (ds.map (viewN m s)).all (dat n) = true → DpAll K H vs (pys (ds.map (viewN m s)))
  | _, _, .nil, _ => .nil
  | _, _, .cons r q, h => by
    rw [List.map_cons, List.all_cons, Bool.and_eq_true] at h
    exact .cons (hm n r h.1) (RepL.dpv hm n q h.2)
theorem Rep.dpv (I : StR w K T σ H G s) : ∀ (m n : Nat) {v : V} {d : D}, Rep w K H G v d → dat n (viewN m s d) = true → Dp K H v (py (viewN m s d))
  | 0, n, _, _, r, h => Rep.dp n r h
  | m + 1, n, v, d, r, h => by
    have hm := fun (n : Nat) {v : V} {d : D} => Rep.dpv I m n (v := v) (d := d)
    cases d with
    | non => cases r; exact .non
    | bl b => cases r; exact .bl b
    | int i => cases r; exact .int i
    | str x => cases r; exact .str _
    | lst xs =>
      cases r with
      | lst f q r =>
        cases n with
        | zero => cases h
        | succ n => exact .lst (.inl (.inl q)) (RepL.dpv hm n r h)
    | tup xs =>
      cases r with
      | tup q r =>
        cases n with
        | zero => cases h
        | succ n => exact .tup q (RepL.dpv hm n r h)
    | dct xs => cases n <;> cases h
    | scr xs => cases n <;> cases h
    | own i => cases r
    | cel i =>
      have e : viewN (m + 1) s (.cel i) = (match content s (.cel i) with | some (.L xs) => .lst (xs.map (viewN m s)) | _ => .cel i) := rfl
      rw [e] at h ⊢
      split at h
      · rename_i xs q
        obtain ⟨a, vs, h1, h2, h3⟩ := content_L I (RepT.of r) q

        subst h1
        cases n with
        | zero => cases h
        | succ n => exact .lst (.inl (.inl h2)) (RepL.dpv hm n h3 h)
      · cases n <;> cases h
theorem view_dp {v : V} {d : D} {n : Nat} (I : StR w K T σ H G s) (r : RepT w K σ H G s v d) (h : dat n (view s d) = true) : Dp K H v (py (view s d)) := by
  unfold view at h ⊢
  cases d with
  | own i =>
    have e : viewN 60 s (.own i) = (match content s (.own i) with | some (.L xs) => .lst (xs.map (viewN 59 s)) | _ => .own i) := rfl
    rw [e] at h ⊢
    split at h
    · rename_i xs q
      obtain ⟨a, vs, h1, h2, h3⟩ := content_L I r q

      subst h1
      cases n with
      | zero => cases h
      | succ n => exact .lst (.inl (.inl h2)) (RepL.dpv (fun n {v d} => Rep.dpv I 59 n) n h3 h)
    · cases n <;> cases h
  | _ => exact Rep.dpv I 60 n r h
end

/-! ### operators -/
/-- an operator of two values -/
def B2 (X : Cx) (T : Tb) (W : Wi) (f : Value → Value → Sem Value) (op : D → D → Ex) : Prop :=
  ∀ (pins : List (Addr × Obj)) (st : Shared) (σ : Sg) (H : Hp) (x y : V) (v u : Value) (G : Wd) (s : S) (d e : D) (Q : VK), Inv X pins σ H st → RelV x v → RelV y u → StR X.w X.K T σ H G s →
    RepT X.w X.K σ H G s x d → RepT X.w X.K σ H G s y e → (op d e s).holds (PV X.w X.K T Q σ H G s) (PX X.w X.K T W σ H G s) → wpAny (model X.prog X.w) X.A (f v u) (EP X pins σ Q) X.xe st
section
variable {X : Cx} {T : Tb} {W : Wi} {pos : Pos}
theorem B2.of {f : Value → Value → Sem Value} {op : D → D → Ex} {r : R2} (ho : OpR X f r)
    (h : ∀ (σ : Sg) (H : Hp) (x y : V) (G : Wd) (s : S) (d e : D) (Q : VK), StR X.w X.K T σ H G s → RepT X.w X.K σ H G s x d → RepT X.w X.K σ H G s y e → (op d e s).holds (PV X.w X.K T Q σ H G s) (PX X.w X.K T W σ H G s) → r x y H Q) : B2 X T W f op :=
  fun pins st σ H x y v u G s d e Q I rx ry J r1 r2 q => ho pins st σ H x y v u Q I rx ry (h σ H x y G s d e Q J r1 r2 q)
def bin2 (op : D → D → Ex) (fa fb : Ex) : Ex := fun s => (fa s).bind fun d s => (fb s).bind fun e s => op d e s
theorem two {f : Value → Value → Sem Value} {op : D → D → Ex} {a b : Expr} {fa fb : Ex} (ho : B2 X T W f op) (ha : SO X T W a fa) (hb : SO X T W b fb) {pins : List (Addr × Obj)} {st : Shared} {σ : Sg} {H : Hp} {Q : VK}
    (I : Inv X pins σ H st) (h : tV X.w X.K T W (bin2 op fa fb) σ H Q) :
    wpAny (model X.prog X.w) X.A (eval a X.env) (fun v s₁ => wpAny (model X.prog X.w) X.A (eval b X.env) (fun u s₂ => wpAny (model X.prog X.w) X.A (f v u) (EP X pins σ Q) X.xe s₂) X.xe s₁) X.xe st := by
  obtain ⟨G, s, J, q⟩ := h
  refine bin (R := fun x y H2 => ∃ G s d e, StR X.w X.K T σ H2 G s ∧ RepT X.w X.K σ H2 G s x d ∧ RepT X.w X.K σ H2 G s y e ∧ (op d e s).holds (PV X.w X.K T Q σ H2 G s) (PX X.w X.K T W σ H2 G s)) ha hb I ?_ ?_
  · refine tO_bind J q fun d s1 H1 G1 x b1 J1 r1 q => ?_
    refine tO_bind J1 (hV b1 q) fun e s2 H2 G2 y b2 J2 r2 q => ?_
    exact ⟨G2, s2, d, e, J2, r1.step J1 b2 J2, r2, hV b2 q⟩
  · rintro v u s2 x y H2 I2 rx ry ⟨G2, s2', d, e, J2, r1, r2, q⟩
    exact ho pins s2 σ H2 x y v u G2 s2' d e Q I2 rx ry J2 r1 r2 q
theorem sv_bin {o : Operator} {op : D → D → Ex} {a b : Expr} {fa fb : Ex} (ho : B2 X T W (binaryOp o) op) (ha : SO X T W a fa) (hb : SO X T W b fb) : SV X T W (.BinOp a o b pos) (bin2 op fa fb) :=
  ⟨fun pins st σ H Q I h => wpAny_BinOp (two ho ha hb I h)⟩
theorem sv_cmp {o : CmpOp} {op : D → D → Ex} {a b : Expr} {fa fb : Ex} (ho : B2 X T W (compareOp o) op) (ha : SO X T W a fa) (hb : SO X T W b fb) (hm : behindInMarks o b = false) : SV X T W (.Compare a [o] [b] pos) (bin2 op fa fb) :=
  ⟨fun pins st σ H Q I h => wpAny_Compare1 (two ho ha hb I h) hm⟩
end
end G

set_option Elab.async false
set_option linter.all false
set_option maxRecDepth 100000
set_option maxHeartbeats 4000000
namespace G
open PySem PySem.Spec PyProof.Rows L2
section
variable {X : Cx} {T : Tb} {W : Wi} {pos : Pos}

/-! ### truth -/
def truthD (s : S) : D → Option Bool
  | .non => some false
  | .bl b => some b
  | .int i => some (decide (i ≠ 0))
  | .str x => if x.length ≤ line then some (!x.isEmpty) else none
  | d => (seqOf s d).map fun xs => !xs.isEmpty
def truT (f : Ex) : Tx := fun s => (f s).bind fun d s => match truthD s d with
  | some b => .ok b s
  | none => .bad
theorem length_toStr (x : List Nat) : (toStr x).length = x.length := by
  show (toStr x).cps.size = _
  simp [toStr]
theorem truth_ok {w : World} {K : PySem.W.Frag} {σ : Sg} {H : Hp} {G : Wd} {s : S} {v : V} {d : D} {b : Bool} (I : StR w K T σ H G s) (r : RepT w K σ H G s v d) (h : truthD s d = some b) : TruV K v H b := by
  have seq : (seqOf s d).map (fun xs => !xs.isEmpty) = some b → TruV K v H b := fun h => by
    obtain ⟨xs, h1, h2⟩ := Option.map_eq_some_iff.mp h
    obtain ⟨a, vs, h3, h4, h5⟩ := seqOf_ok I r h1
    subst h3
    have e : (!vs.isEmpty) = !xs.isEmpty := by cases h5 <;> rfl
    rcases h4 with h4 | h4
    · exact .inl ⟨vs, h4, by rw [e]; exact h2.symm⟩
    · exact .inr (.inl ⟨vs, h4, by rw [e]; exact h2.symm⟩)
  cases d with
  | non => cases r; cases h; rfl
  | bl c => cases r; cases h; rfl
  | int i =>
    cases r; cases h
    show decide (i ≠ 0) = (i != 0)
    by_cases e : i = 0 <;> simp [e]
  | str x =>
    cases r
    simp only [truthD] at h
    split at h
    · rename_i hl
      cases h
      refine ⟨by rw [length_toStr, line_eq]; exact hl, ?_⟩
      rw [length_toStr]
      cases x with
      | nil => rfl
      | cons c x =>
        show true = _
        symm
        rw [bne_iff_ne]
        simp only [List.length_cons]
        omega
    · cases h
  | _ => exact seq h
theorem st_truth {e : Expr} {f : Ex} (h : SO X T W e f) (he : ∀ whole, isTrue e X.env whole = (do let v ← whole; standAt e.pos; holding [v] (truthy v)) := by intro _; rfl) : ST X T W e (truT f) := by
  refine PT.imp (pt_truth h he) fun σ H Q ⟨G, s, I, q⟩ => ?_
  refine tO_bind I q fun d s1 H1 G1 v b J r q => ?_
  cases e : truthD s1 d with
  | none => rw [e] at q; exact q.elim
  | some c =>
    rw [e] at q
    exact ⟨c, truth_ok J r e, q _ _ b J⟩
/-- a value that is a truth, as a test -/
theorem truT_tV {w : World} {K : PySem.W.Frag} {f : Ex} {σ : Sg} {H : Hp} {Q : Bool → Hp → Prop} (hb : ∀ s d s', f s = .ok d s' → ∃ c, d = .bl c) (h : tB w K T W (truT f) σ H Q) : tV w K T W f σ H fun x H1 => ∃ c, x = .bl c ∧ Q c H1 := by
  obtain ⟨G, s, I, q⟩ := h
  refine ⟨G, s, I, ?_⟩
  unfold truT at q
  cases e : f s with
  | ok d s' =>
    rw [e] at q
    obtain ⟨c, rfl⟩ := hb _ _ _ e
    intro H' G' v b J r
    cases r
    exact ⟨c, rfl, q _ _ b J⟩
  | exc c d s' => rw [e] at q; exact q
  | bad => rw [e] at q; exact q
/-- an operator that gives truths -/
def Truths (op : D → D → Ex) : Prop := ∀ d e s x s', op d e s = .ok x s' → ∃ c, x = .bl c
theorem bin2_truths {op : D → D → Ex} (h : Truths op) (fa fb : Ex) : ∀ s d s', bin2 op fa fb s = .ok d s' → ∃ c, d = .bl c := by
  intro s d s' e
  unfold bin2 at e
  cases e1 : fa s with
  | ok d1 s1 =>
    rw [e1] at e
    simp only [R.bind] at e
    cases e2 : fb s1 with
    | ok d2 s2 => rw [e2] at e; exact h _ _ _ _ _ e
    | exc c d s => rw [e2] at e; cases e
    | bad => rw [e2] at e; cases e
  | exc c d s => rw [e1] at e; cases e
  | bad => rw [e1] at e; cases e
theorem st_cmp {o : CmpOp} {op : D → D → Ex} {a b : Expr} {fa fb : Ex} (ho : B2 X T W (compareOp o) op) (ht : Truths op) (ha : SO X T W a fa) (hb : SO X T W b fb) (hm : behindInMarks o b = false) : ST X T W (.Compare a [o] [b] pos) (truT (bin2 op fa fb)) := by
  refine ⟨fun pins st σ H Q I hw => ?_⟩
  have hv := truT_tV (bin2_truths ht fa fb) hw
  refine wpAny_isTrue_Compare1 (thn (two ho ha hb I hv) fun v s1 h1 => thn h1 fun u s2 h2 => thn h2 fun c s3 ⟨x, H1, I1, r1, q1⟩ => ?_) hm
  obtain ⟨k, rfl, q⟩ := q1
  cases r1
  exact wpAny_truthy_bool ⟨H1, I1, q⟩
def notT (f : Tx) : Tx := fun s => (f s).bind fun b s => .ok (!b) s
def andT (f g : Tx) : Tx := fun s => (f s).bind fun b s => if b then g s else .ok false s
def orT (f g : Tx) : Tx := fun s => (f s).bind fun b s => if b then .ok true s else g s
theorem st_not {e : Expr} {f : Tx} (h : ST X T W e f) : ST X T W (.UnaryOp .Not e pos) (notT f) := by
  refine PT.imp (pt_not h) fun σ H Q ⟨G, s, I, q⟩ => ?_
  exact tB_bind I q fun b s1 H1 G1 b1 J q => q _ _ b1 J
theorem sw_and1 {e : Expr} {f : Tx} (h : ST X T W e f) : SW X T W (.BoolOp .And [e] pos) f := pw_and1 h
theorem sw_or1 {e : Expr} {f : Tx} (h : ST X T W e f) : SW X T W (.BoolOp .Or [e] pos) f := pw_or1 h
theorem sw_and {a b : Expr} {rest : List Expr} {f g : Tx} (h : ST X T W a f) (hr : SW X T W (.BoolOp .And (b :: rest) pos) g) : SW X T W (.BoolOp .And (a :: b :: rest) pos) (andT f g) := by
  refine PW.imp (pw_and h hr) fun σ H Q ⟨G, s, I, q⟩ => ?_
  refine tB_bind I q fun b s1 H1 G1 b1 J q => ?_
  cases b with
  | true =>
    rw [if_pos rfl] at q ⊢
    exact ⟨G1, s1, J, hB b1 q⟩
  | false => exact q _ _ b1 J
theorem sw_or {a b : Expr} {rest : List Expr} {f g : Tx} (h : ST X T W a f) (hr : SW X T W (.BoolOp .Or (b :: rest) pos) g) : SW X T W (.BoolOp .Or (a :: b :: rest) pos) (orT f g) := by
  refine PW.imp (pw_or h hr) fun σ H Q ⟨G, s, I, q⟩ => ?_
  refine tB_bind I q fun b s1 H1 G1 b1 J q => ?_
  cases b with
  | true => exact q _ _ b1 J
  | false =>
    rw [if_neg Bool.false_ne_true] at q ⊢
    exact ⟨G1, s1, J, hB b1 q⟩
theorem st_sw {op : BoolOp} {es : List Expr} {f : Tx} (h : SW X T W (.BoolOp op es pos) f) : ST X T W (.BoolOp op es pos) f := PW.pt h
/-! .. as values: the operands but the last one are truths -/
def boolV (s : S) (d : D) (k : Bool → R D) : R D := match d with
  | .bl b => k b
  | _ => .bad
def andV (f g : Ex) : Ex := fun s => (f s).bind fun d s => match d with
  | .bl b => if b then g s else .ok (.bl false) s
  | _ => .bad
def orV (f g : Ex) : Ex := fun s => (f s).bind fun d s => match d with
  | .bl b => if b then .ok (.bl true) s else g s
  | _ => .bad
def notV (f : Ex) : Ex := fun s => (f s).bind fun d s => match d with
  | .bl b => .ok (.bl (!b)) s
  | _ => .bad
theorem sv_one {op} {e : Expr} {f : Ex} (h : SV X T W e f) : SV X T W (.BoolOp op [e] pos) f := pe_one h
theorem sv_and {a b : Expr} {rest : List Expr} {f g : Ex} (h : SV X T W a f) (hr : SV X T W (.BoolOp .And (b :: rest) pos) g) : SV X T W (.BoolOp .And (a :: b :: rest) pos) (andV f g) := by
  refine PE.imp (pe_and h hr) fun σ H Q ⟨G, s, I, q⟩ => ?_
  refine tV_bind I q fun d s1 H1 G1 v b1 J r q => ?_
  cases d with
  | bl c =>
    cases r
    refine ⟨c, rfl, ?_⟩
    cases c with
    | true => exact ⟨G1, s1, J, hV b1 q⟩
    | false => exact q _ _ _ b1 J (.bl false)
  | _ => exact q.elim
theorem sv_or {a b : Expr} {rest : List Expr} {f g : Ex} (h : SV X T W a f) (hr : SV X T W (.BoolOp .Or (b :: rest) pos) g) : SV X T W (.BoolOp .Or (a :: b :: rest) pos) (orV f g) := by
  refine PE.imp (pe_or h hr) fun σ H Q ⟨G, s, I, q⟩ => ?_
  refine tV_bind I q fun d s1 H1 G1 v b1 J r q => ?_
  cases d with
  | bl c =>
    cases r
    refine ⟨c, rfl, ?_⟩
    cases c with
    | true => exact q _ _ _ b1 J (.bl true)
    | false => exact ⟨G1, s1, J, hV b1 q⟩
  | _ => exact q.elim
theorem sv_not {e : Expr} {f : Ex} (h : SV X T W e f) : SV X T W (.UnaryOp .Not e pos) (notV f) := by
  refine PE.imp (pe_not h) fun σ H Q ⟨G, s, I, q⟩ => ?_
  refine tV_bind I q fun d s1 H1 G1 v b1 J r q => ?_
  cases d with
  | bl c =>
    cases r
    exact ⟨c, rfl, q _ _ _ b1 J (.bl _)⟩
  | _ => exact q.elim
def ifV (c : Tx) (f g : Ex) : Ex := fun s => (c s).bind fun b s => if b then f s else g s
theorem sv_if {c a b : Expr} {fc : Tx} {f g : Ex} (hc : ST X T W c fc) (ha : SV X T W a f) (hb : SV X T W b g) : SV X T W (.IfExp c a b pos) (ifV fc f g) := by
  refine PE.imp (pe_ifExp hc ha hb) fun σ H Q ⟨G, s, I, q⟩ => ?_
  refine tB_bind I q fun b s1 H1 G1 b1 J q => ?_
  cases b with
  | true => exact ⟨G1, s1, J, hV b1 q⟩
  | false => exact ⟨G1, s1, J, hV b1 q⟩
theorem so_if {c a b : Expr} {fc : Tx} {f g : Ex} (hc : ST X T W c fc) (ha : SO X T W a f) (hb : SO X T W b g) : SO X T W (.IfExp c a b pos) (ifV fc f g) := by
  refine PE.imp (pe_ifExp hc ha hb) fun σ H Q ⟨G, s, I, q⟩ => ?_
  refine tB_bind I q fun b s1 H1 G1 b1 J q => ?_
  cases b with
  | true => exact ⟨G1, s1, J, hO b1 q⟩
  | false => exact ⟨G1, s1, J, hO b1 q⟩

/-! ### arithmetic -/
def numI (g : Int → Int → Option Int) : D → D → Ex := fun d e s => match d, e with
  | .int i, .int j => (match g i j with
    | some k => .ok (.int k) s
    | none => .bad)
  | _, _ => .bad
theorem b2_num {f : Value → Value → Sem Value} {C : Int → Int → Prop} {k : Int → Int → Int} {g : Int → Int → Option Int} (ho : OpR X f (rI C fun i j => .int (k i j))) (hg : ∀ i j z, g i j = some z → C i j ∧ z = k i j) : B2 X T W f (numI g) := by
  refine B2.of ho fun σ H x y G s d e Q I r1 r2 q => ?_
  unfold numI at q
  split at q
  · split at q
    · rename_i i j _ z hz
      obtain ⟨h1, rfl⟩ := hg _ _ _ hz
      cases r1; cases r2
      exact ⟨_, _, rfl, rfl, h1, q _ _ _ Stp.refl I (.int _)⟩
    · exact q.elim
  · exact q.elim
def bitsOk (n : Nat) : Bool := decide (n ≤ 134217728)
def subI (i j : Int) : Option Int := some (i - j)
def mulI (i j : Int) : Option Int := if i.natAbs.log2 + 1 + (j.natAbs.log2 + 1) ≤ 134217728 then some (i * j) else none
def fdivI (i j : Int) : Option Int := if 0 < j ∧ j < 1073741824 then some (i / j) else none
def modI (i j : Int) : Option Int := if 0 < j then some (i % j) else none
def powI (i j : Int) : Option Int := if 0 ≤ j ∧ (i.natAbs.log2 + 1) * j.toNat ≤ 134217728 then some (i ^ j.toNat) else none
theorem intBits_le (i : Int) : (Builtin.Int.intBits i : Int) ≤ (i.natAbs.log2 + 1 : Nat) := by
  unfold Builtin.Int.intBits
  split <;> omega
theorem b2_sub : B2 X T W (binaryOp .Sub) (numI subI) := b2_num (C := fun _ _ => True) (k := fun i j => i - j) (by
  intro pins s σ H x y v u Q I rx ry h
  obtain ⟨i, j, e1, e2, _, q⟩ := h
  exact op_sub pins s σ H x y v u Q I rx ry ⟨i, j, e1, e2, q⟩) fun i j z h => ⟨trivial, (Option.some.inj h).symm⟩
theorem b2_mulI : B2 X T W (binaryOp .Mult) (numI mulI) := b2_num op_mulX fun i j z h => by
  unfold mulI at h
  split at h
  · rename_i hb
    refine ⟨?_, (Option.some.inj h).symm⟩
    have h1 := intBits_le i
    have h2 := intBits_le j
    show (Builtin.Int.intBits i : Int) + (Builtin.Int.intBits j : Int) ≤ 134217728
    omega
  · cases h
theorem b2_fdiv : B2 X T W (binaryOp .FloorDiv) (numI fdivI) := b2_num op_fdiv fun i j z h => by
  unfold fdivI at h
  split at h
  · rename_i hb
    exact ⟨hb, (Option.some.inj h).symm⟩
  · cases h
theorem b2_mod : B2 X T W (binaryOp .Mod) (numI modI) := b2_num op_mod fun i j z h => by
  unfold modI at h
  split at h
  · rename_i hb
    exact ⟨hb, (Option.some.inj h).symm⟩
  · cases h
theorem op_powW : OpR X (binaryOp .Pow) (rI (fun i j => 0 ≤ j ∧ (Builtin.Int.intBits i : Int) * j ≤ 2 ^ 27) fun i j => .int (i ^ j.toNat)) := opI fun _ _ _ _ _ _ _ hc q => pow_int hc.1 hc.2 q
theorem b2_pow : B2 X T W (binaryOp .Pow) (numI powI) := b2_num op_powW fun i j z h => by
  unfold powI at h
  split at h
  · rename_i hb
    refine ⟨⟨hb.1, ?_⟩, (Option.some.inj h).symm⟩
    have h1 := intBits_le i
    have h2 : (Builtin.Int.intBits i : Int) * j ≤ ((i.natAbs.log2 + 1 : Nat) : Int) * j := Int.mul_le_mul_of_nonneg_right h1 hb.1
    have h3 : (((i.natAbs.log2 + 1) * j.toNat : Nat) : Int) ≤ 134217728 := Int.ofNat_le.mpr hb.2
    have h4 : ((i.natAbs.log2 + 1 : Nat) : Int) * j = (((i.natAbs.log2 + 1) * j.toNat : Nat) : Int) := by
      rw [Int.natCast_mul, Int.toNat_of_nonneg hb.1]
    have h5 : (2 : Int) ^ 27 = 134217728 := by decide
    omega
  · cases h
def negE (f : Ex) : Ex := fun s => (f s).bind fun d s => match d with
  | .int i => .ok (.int (-i)) s
  | _ => .bad
theorem sv_neg {e : Expr} {f : Ex} (h : SV X T W e f) : SV X T W (.UnaryOp .USub e pos) (negE f) := by
  refine PE.imp (pe_un un_neg h) fun σ H Q ⟨G, s, I, q⟩ => ?_
  refine tV_bind I q fun d s1 H1 G1 v b1 J r q => ?_
  cases d with
  | int i =>
    cases r
    exact ⟨i, rfl, q _ _ _ b1 J (.int _)⟩
  | _ => exact q.elim
/-! ### + -/
def addD : D → D → Ex := fun d e s => match d, e with
  | .int i, .int j => .ok (.int (i + j)) s
  | .str x, .str y => if x.length + y.length ≤ line then .ok (.str (x ++ y)) s else .bad
  | .tup xs, .tup ys => if xs.length + ys.length ≤ line then .ok (.tup (xs ++ ys)) s else .bad
  | d, e => match content s d, content s e with
    | some (.L xs), some (.L ys) => if xs.length + ys.length ≤ line then .ok (.lst (xs ++ ys)) s else .bad
    | _, _ => .bad
theorem b2_add : B2 X T W (binaryOp .Add) addD := by
  intro pins st σ H x y v u G s d e Q I rx ry J r1 r2 q
  have lists : (match content s d, content s e with
      | some (.L xs), some (.L ys) => if xs.length + ys.length ≤ line then R.ok (D.lst (xs ++ ys)) s else R.bad
      | _, _ => R.bad).holds (PV X.w X.K T Q σ H G s) (PX X.w X.K T W σ H G s) → wpAny (model X.prog X.w) X.A (binaryOp .Add v u) (EP X pins σ Q) X.xe st := fun q => by
    split at q
    · rename_i xs ys c1 c2
      split at q
      · rename_i hl
        obtain ⟨a, vs, e1, h1, h2⟩ := content_L J r1 c1
        obtain ⟨b, us, e2, h3, h4⟩ := content_L J r2 c2
        refine op_cat pins st σ H x y v u Q I rx ry ⟨a, b, vs, us, e1, e2, h1, h3, by rw [h2.length, h4.length, line_eq]; exact hl, fun p hp => ?_⟩
        exact q _ _ _ (Stp.fresh hp) (J.fresh hp) (.lst (.inr rfl) upd_same ((h2.append h4).kp (J.kp (Stp.fresh hp))))
      · exact q.elim
    · exact q.elim
  cases d with
  | int i =>
    cases e with
    | int j =>
      cases r1; cases r2
      exact op_add pins st σ H _ _ v u Q I rx ry ⟨i, j, rfl, rfl, q _ _ _ Stp.refl J (.int _)⟩
    | _ => exact lists q
  | str a =>
    cases e with
    | str b =>
      cases r1; cases r2
      simp only [addD] at q
      split at q
      · rename_i hl
        refine op_add_str pins st σ H _ _ v u Q I rx ry ⟨_, _, rfl, rfl, by rw [length_toStr, length_toStr, line_eq]; exact hl, ?_⟩
        have e : toStr a ++ toStr b = toStr (a ++ b) := by
          show (⟨(toStr a).cps ++ (toStr b).cps⟩ : Str) = _
          simp [toStr]
        rw [e]
        exact q _ _ _ Stp.refl J (.str _)
      · exact q.elim
    | _ => exact lists q
  | tup xs =>
    cases e with
    | tup ys =>
      cases r1 with
      | tup p1 l1 =>
        cases r2 with
        | tup p2 l2 =>
          simp only [addD] at q
          split at q
          · rename_i hl
            refine op_catA pins st σ H _ _ v u Q I rx ry ⟨_, _, _, _, rfl, rfl, p1, p2, by rw [l1.length, l2.length, line_eq]; exact hl, fun z => ?_, fun z1 z2 => ?_, fun _ _ p hp => ?_⟩
            · subst z
              cases l1
              exact q _ _ _ Stp.refl J (.tup p2 l2)
            · subst z2
              cases l2
              rw [List.append_nil] at q
              exact q _ _ _ Stp.refl J (.tup p1 l1)
            · exact q _ _ _ (Stp.fresh hp) (J.fresh hp) (.tup (.inl (.inl upd_same)) ((l1.append l2).kp (J.kp (Stp.fresh hp))))
          · exact q.elim
    | _ => exact lists q
  | _ => exact lists q
/-! ### == -/
def eqB (s : S) (d e : D) : Option Bool := match d, e with
  | .int i, .int j => some (decide (i = j))
  | .str x, .str y => some (decide (x = y))
  | d, e => if dat 60 (view s d) && dat 60 (view s e) then some (pyEq (view s d) (view s e)) else none
def truR (s : S) : Option Bool → R D
  | some b => .ok (.bl b) s
  | none => .bad
def eqD : D → D → Ex := fun d e s => truR s (eqB s d e)
def neD : D → D → Ex := fun d e s => truR s ((eqB s d e).map not)
theorem truths_truR {f : S → D → D → Option Bool} : Truths fun d e s => truR s (f s d e) := by
  intro d e s x s' h
  have h : truR s (f s d e) = .ok x s' := h
  cases q : f s d e with
  | none => rw [q] at h; cases h
  | some b => rw [q] at h; cases h; exact ⟨b, rfl⟩
theorem truths_eq : Truths eqD := truths_truR
theorem truths_ne : Truths neD := truths_truR (f := fun s d e => (eqB s d e).map not)
theorem eqB_data {w : World} {K : PySem.W.Frag} {σ : Sg} {H : Hp} {G : Wd} {s : S} {x y : V} {d e : D} {b : Bool} (J : StR w K T σ H G s) (r1 : RepT w K σ H G s x d) (r2 : RepT w K σ H G s y e) (h : eqB s d e = some b) :
    (∃ i j, x = .int i ∧ y = .int j ∧ b = decide (i = j)) ∨ (∃ i j, x = .str (toStr i) ∧ y = .str (toStr j) ∧ b = decide (i = j)) ∨ ∃ p q, Dp K H x p ∧ Dp K H y q ∧ SeqAt.shaped p = true ∧ SeqAt.shaped q = true ∧ PyData.eqv p q = b := by
  have gen : (if dat 60 (view s d) && dat 60 (view s e) then some (pyEq (view s d) (view s e)) else none) = some b → ∃ p q, Dp K H x p ∧ Dp K H y q ∧ SeqAt.shaped p = true ∧ SeqAt.shaped q = true ∧ PyData.eqv p q = b := fun h => by
    split at h
    · rename_i hd
      rw [Bool.and_eq_true] at hd
      exact ⟨_, _, view_dp J r1 hd.1, view_dp J r2 hd.2, dat_shaped hd.1, dat_shaped hd.2, (pyEq_eqv _ _ 60 hd.1 hd.2).trans (Option.some.inj h)⟩
    · cases h
  cases d with
  | int i =>
    cases e with
    | int j => cases r1; cases r2; exact .inl ⟨i, j, rfl, rfl, (Option.some.inj h).symm⟩
    | _ => exact .inr (.inr (gen h))
  | str i =>
    cases e with
    | str j => cases r1; cases r2; exact .inr (.inl ⟨i, j, rfl, rfl, (Option.some.inj h).symm⟩)
    | _ => exact .inr (.inr (gen h))
  | _ => exact .inr (.inr (gen h))
theorem b2_eq (hu : X.A.units + 64 < cLine) : B2 X T W (compareOp .Eq) eqD := by
  intro pins st σ H x y v u G s d e Q I rx ry J r1 r2 q
  cases h : eqB s d e with
  | none => unfold eqD at q; rw [h] at q; exact q.elim
  | some b =>
    unfold eqD at q
    rw [h] at q
    have q' : Q (.bl b) H := q _ _ _ Stp.refl J (.bl b)
    rcases eqB_data J r1 r2 h with ⟨i, j, rfl, rfl, e⟩ | ⟨i, j, rfl, rfl, e⟩ | ⟨p, p', h1, h2, h3, h4, e⟩
    · refine op_eq pins st σ H _ _ v u Q I rx ry ⟨rfl, ?_⟩
      have : decide (V.int i = V.int j) = b := by rw [e, decide_eq_decide]; exact ⟨fun z => by cases z; rfl, fun z => by rw [z]⟩
      rw [this]; exact q'
    · refine op_eq pins st σ H _ _ v u Q I rx ry ⟨rfl, ?_⟩
      have : decide (V.str (toStr i) = V.str (toStr j)) = b := by rw [e, decide_eq_decide]; exact ⟨fun z => toStr_inj (V.str.inj z), fun z => by rw [z]⟩
      rw [this]; exact q'
    · exact op_eqD hu pins st σ H x y v u Q I rx ry ⟨p, p', h1, h2, h3, h4, by rw [e]; exact q'⟩
theorem b2_ne (hu : X.A.units + 64 < cLine) : B2 X T W (compareOp .NotEq) neD := by
  intro pins st σ H x y v u G s d e Q I rx ry J r1 r2 q
  cases h : eqB s d e with
  | none => unfold neD at q; rw [h] at q; exact q.elim
  | some b =>
    unfold neD at q
    rw [h] at q
    have q' : Q (.bl (!b)) H := q _ _ _ Stp.refl J (.bl _)
    rcases eqB_data J r1 r2 h with ⟨i, j, rfl, rfl, e⟩ | ⟨i, j, rfl, rfl, e⟩ | ⟨p, p', h1, h2, h3, h4, e⟩
    · refine op_ne pins st σ H _ _ v u Q I rx ry ⟨rfl, ?_⟩
      have : decide (V.int i = V.int j) = b := by rw [e, decide_eq_decide]; exact ⟨fun z => by cases z; rfl, fun z => by rw [z]⟩
      rw [this]; exact q'
    · refine op_ne pins st σ H _ _ v u Q I rx ry ⟨rfl, ?_⟩
      have : decide (V.str (toStr i) = V.str (toStr j)) = b := by rw [e, decide_eq_decide]; exact ⟨fun z => toStr_inj (V.str.inj z), fun z => by rw [z]⟩
      rw [this]; exact q'
    · exact op_neD hu pins st σ H x y v u Q I rx ry ⟨p, p', h1, h2, h3, h4, by rw [e]; exact q'⟩
/-! ### order of numbers and texts -/
def ltN : List Nat → List Nat → Bool
  | [], [] => false
  | [], _ :: _ => true
  | _ :: _, [] => false
  | a :: x, b :: y => decide (a < b) || (decide (a = b) && ltN x y)
theorem ltN_eq : ∀ x y : List Nat, decide (x < y) = ltN x y
  | [], [] => rfl
  | [], _ :: _ => by simp [ltN]
  | _ :: _, [] => by simp [ltN]
  | a :: x, b :: y => by
    have := ltN_eq x y
    simp only [ltN, ← this]
    rw [Bool.eq_iff_iff]
    simp [List.cons_lt_cons_iff]
def cmpB (fi : Int → Int → Bool) (fs : List Nat → List Nat → Bool) (d e : D) : Option Bool := match d, e with
  | .int i, .int j => some (fi i j)
  | .str x, .str y => some (fs x y)
  | _, _ => none
def cmpD (fi : Int → Int → Bool) (fs : List Nat → List Nat → Bool) : D → D → Ex := fun d e s => truR s (cmpB fi fs d e)
theorem truths_cmp {fi fs} : Truths (cmpD fi fs) := truths_truR (f := fun _ d e => cmpB fi fs d e)
theorem b2_cmp {f : Value → Value → Sem Value} {fi : Int → Int → Bool} {fs : List Nat → List Nat → Bool} {gs : List Nat → List Nat → Bool} (h1 : OpR X f (rI0 fun i j => .bl (fi i j)))
    (h2 : OpR X f (fun x y H Q => ∃ i j, x = .str i ∧ y = .str j ∧ Q (.bl (gs i.cps.toList j.cps.toList)) H)) (hg : ∀ x y, gs x y = fs x y) : B2 X T W f (cmpD fi fs) := by
  intro pins st σ H x y v u G s d e Q I rx ry J r1 r2 q
  cases h : cmpB fi fs d e with
  | none => unfold cmpD at q; rw [h] at q; exact q.elim
  | some b =>
    unfold cmpD at q
    rw [h] at q
    have q' : Q (.bl b) H := q _ _ _ Stp.refl J (.bl b)
    unfold cmpB at h
    split at h
    · cases r1; cases r2; cases h
      exact h1 pins st σ H _ _ v u Q I rx ry ⟨_, _, rfl, rfl, q'⟩
    · cases r1; cases r2; cases h
      refine h2 pins st σ H _ _ v u Q I rx ry ⟨_, _, rfl, rfl, ?_⟩
      have e1 : ∀ z : List Nat, (toStr z).cps.toList = z := fun z => by simp [toStr]
      rw [e1, e1, hg]
      exact q'
    · cases h
def ltD : D → D → Ex := cmpD (fun i j => decide (i < j)) ltN
def leD : D → D → Ex := cmpD (fun i j => decide (i ≤ j)) fun x y => !ltN y x
def gtD : D → D → Ex := cmpD (fun i j => decide (j < i)) fun x y => ltN y x
def geD : D → D → Ex := cmpD (fun i j => decide (j ≤ i)) fun x y => !ltN x y
theorem b2_lt : B2 X T W (compareOp .Lt) ltD := b2_cmp (gs := fun x y => decide (x < y)) op_lt op_lt_str ltN_eq
theorem b2_le : B2 X T W (compareOp .LtE) leD := b2_cmp (gs := fun x y => !decide (y < x)) op_le op_le_str fun x y => by rw [ltN_eq]
theorem b2_gt : B2 X T W (compareOp .Gt) gtD := b2_cmp (gs := fun x y => decide (y < x)) op_gt op_gt_str fun x y => by rw [ltN_eq]
theorem b2_ge : B2 X T W (compareOp .GtE) geD := b2_cmp (gs := fun x y => !decide (x < y)) op_ge op_ge_str fun x y => by rw [ltN_eq]
/-! ### is -/
def isB (d e : D) : Option Bool := match d, e with
  | .own _, _ => none
  | d, .non => some (match d with | .non => true | _ => false)
  | .bl a, .bl b => some (decide (a = b))
  | _, _ => none
def isD : D → D → Ex := fun d e s => truR s (isB d e)
def isNotD : D → D → Ex := fun d e s => truR s ((isB d e).map not)
theorem truths_is : Truths isD := truths_truR (f := fun _ d e => isB d e)
theorem truths_isNot : Truths isNotD := truths_truR (f := fun _ d e => (isB d e).map not)
theorem isB_ok {w : World} {K : PySem.W.Frag} {σ : Sg} {H : Hp} {G : Wd} {s : S} {x y : V} {d e : D} {b : Bool} (r1 : RepT w K σ H G s x d) (r2 : RepT w K σ H G s y e) (h : isB d e = some b) :
    (y = .non ∧ b = decide (x = .non)) ∨ ∃ p q, x = .bl p ∧ y = .bl q ∧ b = decide (p = q) := by
  cases e with
  | non =>
    cases r2
    cases d <;> first
      | (cases h; done)
      | (cases r1; cases h; exact .inl ⟨rfl, rfl⟩)
  | bl q =>
    cases d with
    | bl p => cases r1; cases r2; exact .inr ⟨p, q, rfl, rfl, (Option.some.inj h).symm⟩
    | _ => cases h
  | _ => cases d <;> cases h
theorem b2_is : B2 X T W (compareOp .Is) isD := by
  intro pins st σ H x y v u G s d e Q I rx ry J r1 r2 q
  cases h : isB d e with
  | none => unfold isD at q; rw [h] at q; exact q.elim
  | some b =>
    unfold isD at q
    rw [h] at q
    have q' : Q (.bl b) H := q _ _ _ Stp.refl J (.bl b)
    rcases isB_ok r1 r2 h with ⟨e1, e2⟩ | ⟨p, p', e1, e2, e3⟩
    · exact op_isN pins st σ H x y v u Q I rx ry ⟨e1, by rw [← e2]; exact q'⟩
    · exact op_is_bl pins st σ H x y v u Q I rx ry ⟨p, p', e1, e2, by rw [← e3]; exact q'⟩
theorem b2_isNot : B2 X T W (compareOp .IsNot) isNotD := by
  intro pins st σ H x y v u G s d e Q I rx ry J r1 r2 q
  cases h : isB d e with
  | none => unfold isNotD at q; rw [h] at q; exact q.elim
  | some b =>
    unfold isNotD at q
    rw [h] at q
    have q' : Q (.bl (!b)) H := q _ _ _ Stp.refl J (.bl _)
    rcases isB_ok r1 r2 h with ⟨e1, e2⟩ | ⟨p, p', e1, e2, e3⟩
    · exact op_notN pins st σ H x y v u Q I rx ry ⟨e1, by rw [← e2]; exact q'⟩
    · exact op_isnot_bl pins st σ H x y v u Q I rx ry ⟨p, p', e1, e2, by rw [← e3]; exact q'⟩
end
end G

set_option Elab.async false
set_option linter.all false
set_option maxRecDepth 100000
set_option maxHeartbeats 4000000
namespace G
open PySem PySem.Spec PyProof.Rows L2

/-! ### new lists, dicts, instances: what is done with them is said later -/
abbrev Fx := S → R Co
section
variable (w : World) (K : PySem.W.Frag) (T : Tb)
def PF (Q : VK) (σ : Sg) (H : Hp) (G : Wd) (s : S) (c : Co) (s' : S) : Prop := ∀ H' G' a, Stp σ H G s σ H' G' s' → StR w K T σ H' G' s' → ContR w K T H' G' a c → H a = none → ¬ G'.F a → ¬ Tch σ G' s' a → Q (.ref a) H'
def tF (W : Wi) (f : Fx) : TE := fun σ H Q => ∃ G s, StR w K T σ H G s ∧ (f s).holds (PF w K T Q σ H G s) (PX w K T W σ H G s)
end
def SF (X : Cx) (T : Tb) (W : Wi) (e : Expr) (f : Fx) : Prop := PE X e (tF X.w X.K T W f)
section
variable {w : World} {K : PySem.W.Frag} {T : Tb} {W : Wi} {σ : Sg} {H H1 : Hp} {G G1 : Wd} {s s1 s' : S} {d : D} {v : V} {c : Co} {a : Addr}
theorem PF.tr {Q : VK} (b : Stp σ H G s σ H1 G1 s1) (h : PF w K T Q σ H G s c s') : PF w K T Q σ H1 G1 s1 c s' := fun H' G' a b' J r n => h H' G' a (b.trans b') J r (b.dm a n)
theorem hF {Q : VK} {r : R Co} (b : Stp σ H G s σ H1 G1 s1) (h : r.holds (PF w K T Q σ H G s) (PX w K T W σ H G s)) : r.holds (PF w K T Q σ H1 G1 s1) (PX w K T W σ H1 G1 s1) := R.holds_mono h (fun _ _ => PF.tr b) (fun _ _ _ => PX.tr b)
/-- a new object, tracked: what stands there is not yet used -/
theorem pf_new {Q : VK} {o : HO} {p : Addr} (I : StR w K T σ H G s) (b : Stp σ H G s σ H1 G1 s1) (J : StR w K T σ H1 G1 s1) (hp : H1 p = none) (hc : Kp H1 G1 (upd H1 p o) G1 → ContR w K T (upd H1 p o) G1 p c) (h : PF w K T Q σ H G s c s1) : Q (.ref p) (upd H1 p o) := by
  have b2 : Stp σ H1 G1 s1 σ (upd H1 p o) G1 s1 := Stp.fresh0 hp
  have J2 : StR w K T σ (upd H1 p o) G1 s1 := J.fresh0 hp
  refine h _ _ _ (b.trans b2) J2 (hc (J.kp b2)) (b.dm p hp) (fun z => ?_) (fun z => ?_)
  · obtain ⟨o, z⟩ := J.frs p z
    rw [hp] at z; cases z
  · obtain ⟨c, z, _⟩ := J.tch z
    obtain ⟨o, z⟩ := z.some
    rw [hp] at z; cases z
/-- frozen -/
theorem StR.freezeAt (J : StR w K T σ H G s) (hc : ContR w K T H G a c) (hF : ¬ G.F a) (hT : ¬ Tch σ G s a) (h0 : ∀ b, b = a → H1 b = none) (bb : Stp σ H1 G1 s1 σ H G s) :
    StR w K T σ H { G with F := fun b => G.F b ∨ b = a } s ∧ Stp σ H1 G1 s1 σ H { G with F := fun b => G.F b ∨ b = a } s ∧ Kp H G H { G with F := fun b => G.F b ∨ b = a } := by
  have k : Kp H G H { G with F := fun b => G.F b ∨ b = a } := ⟨fun _ h => .inl h, fun _ _ _ h => h, fun _ _ h => h, fun _ _ _ h => h, fun _ _ => rfl, Nat.le_refl _⟩
  refine ⟨⟨J.len, fun i d h => ?_, fun i c h => ?_, J.oin, J.cnt, fun n c h => ?_, J.inj, J.sep, fun b h => h.elim (J.frs b) fun z => by rw [z]; exact hc.some⟩, ⟨bb.keep, fun b h => .inl (bb.fr b h), bb.rh, bb.le, fun b h => ?_, bb.tc, bb.wc, bb.dm⟩, k⟩
  · obtain ⟨v, h1, h2⟩ := J.val i d h
    exact ⟨v, h1, h2.kp k⟩
  · obtain ⟨b, h1, h2, h3⟩ := J.own i c h
    exact ⟨b, h1, h2.kp k fun _ e => e, fun z => z.elim h3 fun z => hT (.inr ⟨i, c, h, by rw [← z]; exact h1⟩)⟩
  · obtain ⟨h1, h2⟩ := J.sto n c h
    exact ⟨h1.kp k fun _ e => e, fun z => z.elim h2 fun z => hT (.inl ⟨n, by rw [← J.cnt]; exact (List.getElem?_eq_some_iff.mp h).1, z⟩)⟩
  · rcases h with h | h
    · exact bb.nf b h
    · exact .inr (.inl (h0 b h))
theorem coD_rep {d : D} (hd : coD c = some d) (hc : ContR w K T H G a c) (hF : G.F a) : Rep w K H G (.ref a) d := by
  cases c with
  | L xs =>
    cases hd
    obtain ⟨vs, h1, h2⟩ := hc
    exact .lst hF h1 h2
  | M kvs =>
    cases hd
    obtain ⟨es, h1, h2, h3⟩ := hc
    exact .dct hF h1 h2 h3
  | I c fs => cases hd
  | K kvs => cases hd
/-- made a cell -/
theorem StR.mkCell (I : StR w K T σ H G s) (hc : ContR w K T H G a c) (hF : ¬ G.F a) (hT : ¬ Tch σ G s a) :
    StR w K T σ H (G.cell a) { s with sto := s.sto ++ [c] } ∧ Kp H G H (G.cell a) ∧ (∀ b, Tch σ (G.cell a) { s with sto := s.sto ++ [c] } b → Tch σ G s b ∨ b = a) ∧ ∀ b, Wrt σ (G.cell a) { s with sto := s.sto ++ [c] } b → Wrt σ G s b ∨ b = a := by
  have k : Kp H G H (G.cell a) := ⟨fun _ h => h, fun _ _ _ h => h, fun _ _ h => h, fun _ _ _ h => h, fun _ h => Wd.cell_old h, Nat.le_succ _⟩
  have rp : ∀ n, n < G.n → G.rho n ≠ a := fun n h e => hT (.inl ⟨n, h, e⟩)
  refine ⟨⟨I.len, fun i d h => ?_, fun i c h => ?_, I.oin, ?_, fun n c' h => ?_, fun n m hn hm e => ?_, fun i c n h hn => ?_, I.frs⟩, k, fun b h => ?_, fun b h => ?_⟩
  · obtain ⟨v, h1, h2⟩ := I.val i d h
    exact ⟨v, h1, h2.kp k⟩
  · obtain ⟨a, h1, h2, h3⟩ := I.own i c h
    exact ⟨a, h1, h2.kp k fun _ e => e, h3⟩
  · show (s.sto ++ [c]).length = G.n + 1
    rw [List.length_append, I.cnt]
    rfl
  · by_cases hn : n < G.n
    · have h' : s.sto[n]? = some c' := by
        rw [List.getElem?_append_left (by rw [I.cnt]; exact hn)] at h
        exact h
      rw [Wd.cell_old hn]
      obtain ⟨h1, h2⟩ := I.sto n c' h'
      exact ⟨h1.kp k fun _ e => e, h2⟩
    · have hn' : n = G.n := by
        have := (List.getElem?_eq_some_iff.mp h).1
        have e : (s.sto ++ [c]).length = G.n + 1 := by rw [List.length_append, I.cnt]; rfl
        have : n < (s.sto ++ [c]).length := this
        omega
      subst hn'
      have h' : c = c' := by
        have h2 : (s.sto ++ [c])[G.n]? = some c' := h
        rw [← I.cnt, List.getElem?_append_right (Nat.le_refl _), Nat.sub_self] at h2
        simpa using h2
      subst h'
      rw [Wd.cell_new]
      exact ⟨hc.kp k fun _ e => e, hF⟩
  · have hn : n < G.n + 1 := hn
    have hm : m < G.n + 1 := hm
    by_cases en : n = G.n
    · by_cases em : m = G.n
      · rw [en, em]
      · rw [en, Wd.cell_new, Wd.cell_old (by omega)] at e
        exact absurd e.symm (rp m (by omega))
    · by_cases em : m = G.n
      · rw [em, Wd.cell_new, Wd.cell_old (by omega)] at e
        exact absurd e (rp n (by omega))
      · rw [Wd.cell_old (by omega), Wd.cell_old (by omega)] at e
        exact I.inj n m (by omega) (by omega) e
  · have hn : n < G.n + 1 := hn
    by_cases en : n = G.n
    · rw [en, Wd.cell_new]
      intro e
      exact hT (.inr ⟨i, c, h, e⟩)
    · rw [Wd.cell_old (by omega)]
      exact I.sep i c n h (by omega)
  · rcases h with ⟨n, h, e⟩ | h
    · have h : n < G.n + 1 := h
      by_cases en : n = G.n
      · rw [en, Wd.cell_new] at e
        exact .inr e.symm
      · rw [Wd.cell_old (by omega)] at e
        exact .inl (.inl ⟨n, by omega, e⟩)
    · exact .inl (.inr h)
  · rcases h with ⟨n, h, e, nk⟩ | h
    · have h : n < G.n + 1 := h
      by_cases en : n = G.n
      · rw [en, Wd.cell_new] at e
        exact .inr e.symm
      · rw [Wd.cell_old (by omega)] at e
        refine .inl (.inl ⟨n, by omega, e, fun kvs z => nk kvs ?_⟩)
        show (s.sto ++ [c])[n]? = _
        rw [List.getElem?_append_left (List.getElem?_eq_some_iff.mp z).1]
        exact z
    · exact .inl (.inr h)
end
def frzE (f : Fx) : Ex := fun s => (f s).bind fun c s => match coD c with
  | some d => .ok d s
  | none => .bad
def celE (f : Fx) : Ex := fun s => (f s).bind fun c s => .ok (.cel s.sto.length) { s with sto := s.sto ++ [c] }
section
variable {X : Cx} {T : Tb} {W : Wi} {pos : Pos}
theorem tF_bind {w : World} {K : PySem.W.Frag} {α : Type} {σ : Sg} {H : Hp} {G : Wd} {s : S} {f : Fx} {r : Co → S → R α} {P : α → S → Prop} {Q1 : VK} (I : StR w K T σ H G s) (h : ((f s).bind r).holds P (PX w K T W σ H G s))
    (k : ∀ c s1 H1 G1 a, Stp σ H G s σ H1 G1 s1 → StR w K T σ H1 G1 s1 → ContR w K T H1 G1 a c → H a = none → ¬ G1.F a → ¬ Tch σ G1 s1 a → (r c s1).holds P (PX w K T W σ H G s) → Q1 (.ref a) H1) : tF w K T W f σ H Q1 := by
  refine ⟨G, s, I, ?_⟩
  cases e : f s with
  | ok d s1 => rw [e] at h; exact fun H1 G1 v b J q n1 n2 n3 => k d s1 H1 G1 v b J q n1 n2 n3 h
  | exc c d s1 => rw [e] at h; exact h
  | bad => rw [e] at h; exact h
theorem SF.sv {e : Expr} {f : Fx} (h : SF X T W e f) : SV X T W e (frzE f) := by
  refine PE.imp h fun σ H Q ⟨G, s, I, q⟩ => ?_
  refine tF_bind I q fun c s1 H1 G1 a b J hc n1 n2 n3 q => ?_
  cases hd : coD c with
  | none => rw [hd] at q; exact q.elim
  | some d =>
    rw [hd] at q
    obtain ⟨J2, b2, k⟩ := J.freezeAt hc n2 n3 (fun b e => by rw [e]; exact n1) b
    exact q _ _ _ b2 J2 (coD_rep hd (hc.kp k fun _ e => e) (.inr rfl))
theorem SF.cell {e : Expr} {f : Fx} (h : SF X T W e f) : SV X T W e (celE f) := by
  refine PE.imp h fun σ H Q ⟨G, s, I, q⟩ => ?_
  refine tF_bind I q fun c s1 H1 G1 a b J hc n1 n2 n3 q => ?_
  obtain ⟨J2, k, tc, wc⟩ := J.mkCell hc n2 n3
  have b2 : Stp σ H G s σ H1 (G1.cell a) { s1 with sto := s1.sto ++ [c] } := ⟨b.keep, fun x h => b.fr x h, fun n h => (Wd.cell_old (Nat.lt_of_lt_of_le h b.le)).trans (b.rh n h), Nat.le_trans b.le (Nat.le_succ _), b.nf, fun x h => (tc x h).elim (b.tc x) fun e => .inr (by rw [e]; exact n1), fun x h => (wc x h).elim (b.wc x) fun e => .inr (by rw [e]; exact n1), b.dm⟩
  have e : s1.sto.length = G1.n := J.cnt
  refine q _ _ _ b2 J2 ?_
  rw [e]
  have := Rep.cel (w := X.w) (K := X.K) (H := H1) (G := G1.cell a) (n := G1.n) (Nat.lt_succ_self _)
  rw [Wd.cell_new] at this
  exact this
/-- a list display -/
def lstF (fs : Ax) : Fx := fun s => (fs s).bind fun ds s => if ds.length ≤ line then .ok (.L ds) s else .bad
theorem sf_lst {es : List Expr} {fs : Ax} (h : SL X T W es fs) : SF X T W (.List es pos) (lstF fs) := by
  refine PE.imp (pe_lst h) fun σ H Q ⟨G, s, I, q⟩ => ?_
  refine tL_bind I q fun ds s1 H1 G1 vs b J r q => ?_
  split at q
  · rename_i hl
    refine ⟨by rw [r.length, line_eq]; exact hl, fun p hp => ?_⟩
    exact pf_new (c := .L ds) I b J hp (fun k => ⟨vs, upd_same, r.kp k⟩) q
  · exact q.elim

/-! ### statements -/
section
variable (w : World) (K : PySem.W.Frag) (T : Tb)
def PS9 (E : Ends) (σ : Sg) (H : Hp) (G : Wd) (s : S) (f : Fl) (s' : S) : Prop := ∀ σ' H' G', Stp σ H G s σ' H' G' s' → StR w K T σ' H' G' s' → match f with
  | .nx => E.nx σ' H'
  | .rt d => ∀ v, Rep w K H' G' v d → E.rt v H'
  | .bk => E.bk σ' H'
  | .ct => E.ct σ' H'
def PXs (W : Wi) (σ : Sg) (H : Hp) (G : Wd) (s : S) (c : Nat) (d : D) (s' : S) : Prop := W.may ∧ ∀ σ' H' G', Stp σ H G s σ' H' G' s' → StR w K T σ' H' G' s' → W.is c d σ' H' G' s'
def tS (W : Wi) (f : Sx) : TS := fun E σ H => ∃ G s, StR w K T σ H G s ∧ (f s).holds (PS9 w K T E σ H G s) (PXs w K T W σ H G s)
end
def SS (X : Cx) (T : Tb) (W : Wi) (st : Stmt) (f : Sx) : Prop := PS X st (tS X.w X.K T W f)
def SSs (X : Cx) (T : Tb) (W : Wi) (st : List Stmt) (f : Sx) : Prop := PSs X st (tS X.w X.K T W f)
theorem PS.imp {st : Stmt} {t t' : TS} (h : PS X st t) (i : ∀ E σ H, t' E σ H → t E σ H) : PS X st t' := ⟨fun pins s σ H D I q => h.run pins s σ H D I (i D σ H q)⟩
theorem PSs.imp {st : List Stmt} {t t' : TS} (h : PSs X st t) (i : ∀ E σ H, t' E σ H → t E σ H) : PSs X st t' := ⟨fun pins s σ H D I q => h.run pins s σ H D I (i D σ H q)⟩
section
variable {w : World} {K : PySem.W.Frag} {σ σ' : Sg} {H H1 : Hp} {G G1 : Wd} {s s1 s' : S} {d : D} {v : V} {c : Co} {a : Addr}
theorem PXs.tr {c : Nat} (b : Stp σ H G s σ' H1 G1 s1) (h : PXs w K T W σ H G s c d s') : PXs w K T W σ' H1 G1 s1 c d s' := ⟨h.1, fun σ' H' G' b' J => h.2 σ' H' G' (b.trans b') J⟩
theorem PS9.tr {E : Ends} {f : Fl} (b : Stp σ H G s σ' H1 G1 s1) (h : PS9 w K T E σ H G s f s') : PS9 w K T E σ' H1 G1 s1 f s' := fun σ' H' G' b' J => h σ' H' G' (b.trans b') J
theorem hS {E : Ends} {r : R Fl} (b : Stp σ H G s σ' H1 G1 s1) (h : r.holds (PS9 w K T E σ H G s) (PXs w K T W σ H G s)) : r.holds (PS9 w K T E σ' H1 G1 s1) (PXs w K T W σ' H1 G1 s1) := R.holds_mono h (fun _ _ => PS9.tr b) (fun _ _ _ => PXs.tr b)
theorem hX {α : Type} {r : R α} {P : α → S → Prop} (h : r.holds P (PXs w K T W σ H G s)) : r.holds P (PX w K T W σ H G s) := R.holds_mono h (fun _ _ p => p) (fun _ _ _ p => ⟨p.1, fun H' G' b J => p.2 σ H' G' b J⟩)
end
def nextS : Sx := fun s => .ok .nx s
theorem sss_nil : SSs X T W [] nextS := PSs.imp pss_nil fun E σ H ⟨G, s, I, q⟩ => q _ _ _ Stp.refl I
def seqS (f g : Sx) : Sx := fun s => (f s).bind fun fl s => match fl with
  | .nx => g s
  | fl => .ok fl s
theorem tS_seq {w : World} {K : PySem.W.Frag} {f g : Sx} {E : Ends} {σ : Sg} {H : Hp} (h : tS w K T W (seqS f g) E σ H) : tS w K T W f { E with nx := tS w K T W g E } σ H := by
  obtain ⟨G, s, I, q⟩ := h
  refine ⟨G, s, I, ?_⟩
  unfold seqS at q
  cases e : f s with
  | ok fl s1 =>
    rw [e] at q
    intro σ' H' G' b J
    cases fl with
    | nx => exact ⟨G', s1, J, hS b q⟩
    | rt d => exact q σ' H' G' b J
    | bk => exact q σ' H' G' b J
    | ct => exact q σ' H' G' b J
  | exc c d s1 => rw [e] at q; exact q
  | bad => rw [e] at q; exact q
theorem sss_cons {st : Stmt} {rest : List Stmt} {f g : Sx} (h : SS X T W st f) (hr : SSs X T W rest g) : SSs X T W (st :: rest) (seqS f g) := PSs.imp (pss_cons h hr) fun E σ H q => tS_seq q
theorem sss_one {st : Stmt} {f : Sx} (h : SS X T W st f) : SSs X T W [st] f := pss_one h
theorem ss_pass : SS X T W (.Pass pos) nextS := PS.imp ps_pass fun E σ H ⟨G, s, I, q⟩ => q _ _ _ Stp.refl I
def breakS : Sx := fun s => .ok .bk s
def contS : Sx := fun s => .ok .ct s
theorem ss_break : SS X T W (.Break pos) breakS := PS.imp ps_break fun E σ H ⟨G, s, I, q⟩ => q _ _ _ Stp.refl I
theorem ss_continue : SS X T W (.Continue pos) contS := PS.imp ps_continue fun E σ H ⟨G, s, I, q⟩ => q _ _ _ Stp.refl I
theorem ss_doc {x j pos'} : SS X T W (.Expr (.Constant (.str x) j pos) pos') nextS := PS.imp ps_doc fun E σ H ⟨G, s, I, q⟩ => q _ _ _ Stp.refl I
/-- an expression alone -/
def exprS (f : Ex) : Sx := fun s => (f s).bind fun _ s => .ok .nx s
theorem ss_expr {e : Expr} {f : Ex} (h : SO X T W e f) (hs : swapsWith e none pos.line X.env = pure false := by rfl) : SS X T W (.Expr e pos) (exprS f) := by
  refine PS.imp (ps_expr h hs) fun E σ H ⟨G, s, I, q⟩ => ?_
  exact tO_bind I (hX q) fun d s1 H1 G1 v b J r q => q _ _ _ b J
def retS (f : Ex) : Sx := fun s => (f s).bind fun d s => .ok (.rt d) s
theorem ss_ret {e : Expr} {f : Ex} (h : SV X T W e f) : SS X T W (.Return (some e) pos) (retS f) := by
  refine PS.imp (ps_ret h) fun E σ H ⟨G, s, I, q⟩ => ?_
  exact tV_bind I (hX q) fun d s1 H1 G1 v b J r q => q _ _ _ b J v r
def retNS : Sx := fun s => .ok (.rt .non) s
theorem ss_retN : SS X T W (.Return none pos) retNS := PS.imp ps_retN fun E σ H ⟨G, s, I, q⟩ => q _ _ _ Stp.refl I _ .non
def ifS (c : Tx) (f g : Sx) : Sx := fun s => (c s).bind fun b s => if b then f s else g s
theorem ss_if {c : Expr} {a b : List Stmt} {fc : Tx} {f g : Sx} (hc : ST X T W c fc) (ha : SSs X T W a f) (hb : SSs X T W b g) : SS X T W (.If c a b pos) (ifS fc f g) := by
  refine PS.imp (ps_if hc ha hb) fun E σ H ⟨G, s, I, q⟩ => ?_
  have q' : ((fc s).bind fun b s => if b then f s else g s).holds (PS9 X.w X.K T E σ H G s) (PXs X.w X.K T W σ H G s) := q
  refine ⟨G, s, I, ?_⟩
  cases e : fc s with
  | ok b s1 =>
    rw [e] at q'
    intro H' G' b1 J
    cases b with
    | true => exact ⟨G', s1, J, hS b1 q'⟩
    | false => exact ⟨G', s1, J, hS b1 q'⟩
  | exc c d s1 => rw [e] at q'; exact ⟨q'.1, fun H' G' b J => q'.2 σ H' G' b J⟩
  | bad => rw [e] at q'; exact q'
/-- what is never come to -/
def badS : Sx := fun _ => .bad
theorem ss_never {st : Stmt} : SS X T W st badS := PS.imp ps_never fun E σ H ⟨G, s, I, q⟩ => q
theorem sss_never {st : List Stmt} : SSs X T W st badS := PSs.imp pss_never fun E σ H ⟨G, s, I, q⟩ => q

/-! ### names stored -/
section
variable {w : World} {K : PySem.W.Frag} {σ σ' : Sg} {H H1 : Hp} {G G1 : Wd} {s s1 s' : S} {d : D} {v : V} {c : Co} {a : Addr}
theorem get_set {i j : Nat} {x y : Slot} {env : List Slot} (h : (env.set i x)[j]? = some y) : (j = i ∧ y = x) ∨ (j ≠ i ∧ env[j]? = some y) := by
  by_cases e : j = i
  · subst e
    have hl : j < env.length := by
      have := (List.getElem?_eq_some_iff.mp h).1
      rwa [List.length_set] at this
    rw [List.getElem?_set_self hl] at h
    exact .inl ⟨rfl, (Option.some.inj h).symm⟩
  · rw [List.getElem?_set_ne (Ne.symm e)] at h
    exact .inr ⟨e, h⟩
def putV (i : Nat) (x : Slot) (s : S) : S := { s with env := s.env.set i x }
theorem StR.set_val {i : Nat} (I : StR w K T σ H G s) (r : Rep w K H G v d) (hi : i < s.env.length) : StR w K T (σ.set i (some v)) H G (putV i (.val d) s) ∧ Stp σ H G s (σ.set i (some v)) H G (putV i (.val d) s) := by
  have hσ : i < σ.length := by rw [← I.len]; exact hi
  have old : ∀ (j : Nat) (c : Co), (putV i (.val d) s).env[j]? = some (Slot.own c) → j ≠ i ∧ s.env[j]? = some (Slot.own c) := fun j c h => by
    rcases get_set h with ⟨_, e⟩ | h
    · cases e
    · exact h
  refine ⟨⟨?_, fun j d h => ?_, fun j c h => ?_, fun j j' c c1 b h1 h2 e1 e2 => ?_, I.cnt, I.sto, I.inj, fun j c n h hn => ?_, I.frs⟩, ⟨fun _ _ e _ => e, fun _ h => h, fun _ _ => rfl, Nat.le_refl _, fun _ h => .inl h, fun b h => ?_, fun b h => ?_, fun _ h => h⟩⟩
  · show (s.env.set i _).length = _
    rw [List.length_set, List.length_set]; exact I.len
  · rcases get_set h with ⟨e, q⟩ | ⟨ne, h⟩
    · cases q
      rw [e]
      exact ⟨v, List.getElem?_set_self hσ, r⟩
    · obtain ⟨u, h1, h2⟩ := I.val j d h
      exact ⟨u, by rw [List.getElem?_set_ne (Ne.symm ne)]; exact h1, h2⟩
  · obtain ⟨ne, h⟩ := old j c h
    obtain ⟨b, h1, h2⟩ := I.own j c h
    exact ⟨b, by rw [List.getElem?_set_ne (Ne.symm ne)]; exact h1, h2⟩
  · obtain ⟨n1, h1⟩ := old j c h1
    obtain ⟨n2, h2⟩ := old j' c1 h2
    rw [List.getElem?_set_ne (Ne.symm n1)] at e1
    rw [List.getElem?_set_ne (Ne.symm n2)] at e2
    exact I.oin j j' _ _ b h1 h2 e1 e2
  · obtain ⟨ne, h⟩ := old j c h
    rw [List.getElem?_set_ne (Ne.symm ne)]
    exact I.sep j c n h hn
  · rcases h with h | ⟨j, c, h, e⟩
    · exact .inl (.inl h)
    · obtain ⟨ne, h⟩ := old j c h
      rw [List.getElem?_set_ne (Ne.symm ne)] at e
      exact .inl (.inr ⟨j, c, h, e⟩)
  · rcases h with h | ⟨j, c, h, e⟩
    · exact .inl (.inl h)
    · obtain ⟨ne, h⟩ := old j c h
      rw [List.getElem?_set_ne (Ne.symm ne)] at e
      exact .inl (.inr ⟨j, c, h, e⟩)
theorem StR.set_own {i : Nat} (I : StR w K T σ H G s) (hc : ContR w K T H G a c) (hF : ¬ G.F a) (hT : ¬ Tch σ G s a) (hi : i < s.env.length) : StR w K T (σ.set i (some (.ref a))) H G (putV i (.own c) s) ∧ (∀ b, Tch (σ.set i (some (.ref a))) G (putV i (.own c) s) b → Tch σ G s b ∨ b = a) ∧ ∀ b, Wrt (σ.set i (some (.ref a))) G (putV i (.own c) s) b → Wrt σ G s b ∨ b = a := by
  have hσ : i < σ.length := by rw [← I.len]; exact hi
  have get : ∀ (j : Nat) (c' : Co), (putV i (.own c) s).env[j]? = some (Slot.own c') → (j = i ∧ c' = c) ∨ (j ≠ i ∧ s.env[j]? = some (Slot.own c')) := fun j c h => by
    rcases get_set h with ⟨e, q⟩ | h
    · cases q; exact .inl ⟨e, rfl⟩
    · exact .inr h
  have at_ : ∀ (j : Nat), j ≠ i → (σ.set i (some (V.ref a)))[j]? = σ[j]? := fun j n => List.getElem?_set_ne (Ne.symm n)
  have ati : (σ.set i (some (V.ref a)))[i]? = some (some (.ref a)) := List.getElem?_set_self hσ
  refine ⟨⟨?_, fun j d h => ?_, fun j c h => ?_, fun j j' c c1 b h1 h2 e1 e2 => ?_, I.cnt, I.sto, I.inj, fun j c n h hn => ?_, I.frs⟩, fun b h => ?_, fun b h => ?_⟩
  · show (s.env.set i _).length = _
    rw [List.length_set, List.length_set]; exact I.len
  · rcases get_set h with ⟨e, q⟩ | ⟨ne, h⟩
    · cases q
    · obtain ⟨u, h1, h2⟩ := I.val j d h
      exact ⟨u, by rw [at_ j ne]; exact h1, h2⟩
  · rcases get j c h with ⟨e, rfl⟩ | ⟨ne, h⟩
    · rw [e]; exact ⟨a, ati, hc, hF⟩
    · obtain ⟨b, h1, h2⟩ := I.own j c h
      exact ⟨b, by rw [at_ j ne]; exact h1, h2⟩
  · rcases get j c h1 with ⟨e, _⟩ | ⟨n1, g1⟩
    · rcases get j' c1 h2 with ⟨e', _⟩ | ⟨n2, g2⟩
      · rw [e, e']
      · rw [e, ati] at e1; cases e1
        rw [at_ j' n2] at e2
        exact (hT (.inr ⟨j', _, g2, e2⟩)).elim
    · rw [at_ j n1] at e1
      rcases get j' c1 h2 with ⟨e', _⟩ | ⟨n2, g2⟩
      · rw [e', ati] at e2; cases e2
        exact (hT (.inr ⟨j, _, g1, e1⟩)).elim
      · rw [at_ j' n2] at e2
        exact I.oin j j' _ _ b g1 g2 e1 e2
  · rcases get j c h with ⟨e, rfl⟩ | ⟨ne, h⟩
    · rw [e, ati]
      intro z
      cases z
      exact hT (.inl ⟨n, hn, rfl⟩)
    · rw [at_ j ne]
      exact I.sep j c n h hn
  · rcases h with h | ⟨j, c, h, e⟩
    · exact .inl (.inl h)
    · rcases get j c h with ⟨e', rfl⟩ | ⟨ne, h⟩
      · rw [e', ati] at e; cases e; exact .inr rfl
      · rw [at_ j ne] at e
        exact .inl (.inr ⟨j, c, h, e⟩)
  · rcases h with h | ⟨j, c, h, e⟩
    · exact .inl (.inl h)
    · rcases get j c h with ⟨e', rfl⟩ | ⟨ne, h⟩
      · rw [e', ati] at e; cases e; exact .inr rfl
      · rw [at_ j ne] at e
        exact .inl (.inr ⟨j, c, h, e⟩)
end
/-- name = value -/
def setS (i : Nat) (f : Ex) : Sx := fun s => (f s).bind fun d s => if i < s.env.length then .ok .nx (putV i (.val d) s) else .bad
theorem ss_set_of {i : Nat} {f : Ex} {st : Stmt} (h : PS X st (tAsg (tV X.w X.K T W f) (gName i))) : SS X T W st (setS i f) := by
  refine PS.imp h fun E σ H ⟨G, s, I, q⟩ => ?_
  refine tV_bind I (hX q) fun d s1 H1 G1 v b J r q => ?_
  split at q
  · rename_i hi
    obtain ⟨J2, b2⟩ := J.set_val r hi
    exact q _ _ _ (b.trans b2) J2
  · exact q.elim
theorem ss_set {i : Nat} {x : Str} {e : Expr} {f : Ex} {pos' : Pos} (hN : X.N.Nodup) (hi : X.N[i]? = some x) (hx : Loc X.env.scope x) (h : SV X T W e f) (hs : swapsWith e (some (.Name x pos')) pos.line X.env = pure false := by rfl) (hf : X.fn x = true ∨ X.env.scope.names.lookup x = some .local := by first | exact .inl rfl | exact .inr rfl | assumption) :
    SS X T W (.Assign [.Name x pos'] e pos) (setS i f) := ss_set_of (ps_set hN hi hx h hs hf)
/-- name = a new list, dict: the name owns it -/
def ownS (i : Nat) (f : Fx) : Sx := fun s => (f s).bind fun c s => if i < s.env.length then .ok .nx (putV i (.own c) s) else .bad
theorem ss_own_of {i : Nat} {f : Fx} {st : Stmt} (h : PS X st (tAsg (tF X.w X.K T W f) (gName i))) : SS X T W st (ownS i f) := by
  refine PS.imp h fun E σ H ⟨G, s, I, q⟩ => ?_
  refine tF_bind I (hX q) fun c s1 H1 G1 a b J hc n1 n2 n3 q => ?_
  split at q
  · rename_i hi
    obtain ⟨J2, tc, wc⟩ := J.set_own hc n2 n3 hi
    exact q _ _ _ ⟨b.keep, b.fr, b.rh, b.le, b.nf, fun x h => (tc x h).elim (b.tc x) fun e => .inr (by rw [e]; exact n1), fun x h => (wc x h).elim (b.wc x) fun e => .inr (by rw [e]; exact n1), b.dm⟩ J2
  · exact q.elim
theorem ss_own {i : Nat} {x : Str} {e : Expr} {f : Fx} {pos' : Pos} (hN : X.N.Nodup) (hi : X.N[i]? = some x) (hx : Loc X.env.scope x) (h : SF X T W e f) (hs : swapsWith e (some (.Name x pos')) pos.line X.env = pure false := by rfl) (hf : X.fn x = true ∨ X.env.scope.names.lookup x = some .local := by first | exact .inl rfl | exact .inr rfl | assumption) :
    SS X T W (.Assign [.Name x pos'] e pos) (ownS i f) := ss_own_of (ps_set hN hi hx h hs hf)
end
end G

set_option Elab.async false
set_option linter.all false
set_option maxRecDepth 100000
set_option maxHeartbeats 4000000
/-! G: defs that are called where no repr is under way (Around's guards are told) -/
namespace G
open PySem PySem.Spec PyProof.Rows L2

/-- room for k calls, and no repr under way -/
structure RoomG (k : Nat) (A : Around) : Prop where
  r : Room k A
  g : A.guards = some []
theorem RoomG.mono {j k : Nat} {A : Around} (r : RoomG k A) (h : j ≤ k) : RoomG j A := ⟨r.r.mono h, r.g⟩
theorem RoomG.deeper {k : Nat} {A : Around} (r : RoomG (k + 1) A) (env : Env) : RoomG k (A.deeper env) := ⟨r.r.deeper env, r.g⟩
theorem RoomG.in1 {k : Nat} {A : Around} (r : RoomG (k + 1) A) : RoomG k A.in1 := ⟨r.r.in1, r.g⟩
theorem make_guards {A : Around} {C : Addr} {us : List Value} {kw : List (Str × Value)} : (A.under (.builtin "type.__call__" ⟨.ref C :: us, kw⟩)).guards = A.guards := by
  first | rfl | (simp [Around.under, Code.guards, Code.isGuard, pushGuards, guardIds]; done) | (cases h : A.guards <;> simp [Around.under, Code.guards, Code.isGuard, pushGuards, guardIds, h])
theorem RoomG.make {k : Nat} {A : Around} (r : RoomG (k + 1) A) (C : Addr) (us : List Value) (kw : List (Str × Value)) : RoomG k (A.under (.builtin "type.__call__" ⟨.ref C :: us, kw⟩)) := ⟨r.r.make C us kw, by rw [make_guards]; exact r.g⟩
/-- a def's promise, kept where no repr is under way -/
structure FnG (P : Program) (w : World) (K : PySem.W.Frag) (mg : Str → Option Value) (base : Heap) (k : Nat) (f : Addr) (fd : FuncData) (ps : List Str) (sp : Sp) : Prop where
  ln : ∀ vs H Q E, sp vs H Q E → vs.length = ps.length
  go : ∀ (A : Around) (outer : List Env) (st : Shared) (H : Hp) (args : Args) (us : List Value) (vs : List V) (Q : VK), RoomG k A → Env0 P w K mg base A outer st H → BindsTo st fd args (ps.zip us) → Vals vs us → sp vs H Q E0 →
    codeAny (model P w) A (.call (.ref f) args) (CR CX0 outer P w H st Q E0) st
theorem FnG.mono {P : Program} {w : World} {K : PySem.W.Frag} {mg : Str → Option Value} {base : Heap} {j k : Nat} {f : Addr} {fd : FuncData} {ps : List Str} {sp : Sp} (F : FnG P w K mg base j f fd ps sp) (h : j ≤ k) : FnG P w K mg base k f fd ps sp :=
  ⟨F.ln, fun A outer st H args us vs Q hr => F.go A outer st H args us vs Q (hr.mono h)⟩
section
variable {P : Program} {w : World} {K : PySem.W.Frag} {mg : Str → Option Value} {base : Heap}
theorem FnG.body {f : Addr} {name qual : Str} {params : Arguments} {body : List Stmt} {scope : Scope} {dV kV doc pm cdv ct oc : Value} {an od : Option Addr} {k : Nat} {osl : Array (Option Value)} {N ps : List Str} {sp : Sp}
    (hK : K.lookup f = some ⟨oc, od, .func (PySem.W.fnOf name qual params body scope dV kV doc pm an cdv ct), osl⟩) (hC : PySem.W.codeIn K cdv qual = true) (Sc : FnScope N ps scope) (ln : ∀ vs H Q E, sp vs H Q E → vs.length = ps.length)
    (hB : ∀ (A : Around) (outer : List Env) (st : Shared) (H : Hp) (vs : List V) (Q : VK), RoomG k (A.deeper (envOfC qual scope st.heap.objs.size f cdv)) → sp vs H Q E0 → ∃ t, PSs (cxOf CX0 P w K mg base N qual scope f cdv A outer st H E0) body t ∧ t { nx := fun _ H' => Q .non H', rt := Q } (start N vs) H) :
    FnG P w K mg base (k + 1) f (PySem.W.fnOf name qual params body scope dV kV doc pm an cdv ct) ps sp := by
  refine ⟨ln, fun A outer st H args us vs Q hr e0 hb rv hsp => ?_⟩
  have hin : K.In st.heap := e0.mod.kin.keeps fun b o z => (e0.bs b o z).1
  have par : ∀ y ∈ ps.zip us, scope.names.lookup y.1 = some .local ∨ (scope.names.lookup y.1 = some .cell ∧ ((cellsFrom (st.heap.objs.size + 1) scope.names []).lookup y.1).isSome = true) := fun ⟨n, v⟩ hy => (Sc.par n (List.of_mem_zip hy).1).imp id fun q => ⟨q, PySem.W.cellsFrom_some _ _ _ (.inl q)⟩
  refine codeAny_call_function hr.r.depth (hin _ _ hK) rfl Sc.co Sc.gen rfl (PySem.W.codeRec_of hin hC) (hb _ _ _ _ ?_)
  refine wpAny_newFunctionEnv_cells Sc.kind par fun env he t1 x => ?_
  subst he
  refine ⟨(e0.mod.nolimit.keeps fun b o z => (e0.bs b o z).1).keeps x.toInCall.keep, codeAny_func ?_⟩
  obtain ⟨t, ht, hq⟩ := hB A outer st H vs Q (hr.deeper _) hsp
  have I : L2.Inv (cxOf CX0 P w K mg base N qual scope f cdv A outer st H E0) [] (start N vs) H t1 := inv_start Sc hr.r.hd e0 (ln _ _ _ _ hsp) rv x
  refine wpAny_mono (ht.run [] t1 (start N vs) H _ I hq) (fun fl t2 hs => ?_) fun _ _ z => z
  cases fl with
  | ret u => obtain ⟨v, σ', H', J, r2, q⟩ := hs; exact ⟨v, H', J.os, J.bare, J.base, J.hok, r2, q⟩
  | next => obtain ⟨σ', H', J, q⟩ := hs; exact ⟨.non, H', J.os, J.bare, J.base, J.hok, rfl, q⟩
  | brk => obtain ⟨_, _, _, q⟩ := hs; exact q.elim
  | cont => obtain ⟨_, _, _, q⟩ := hs; exact q.elim
theorem FnG.of {x qual : Str} {params : Arguments} {body : List Stmt} {scope : Scope} {dvs : List V} {kws : List (Str × V)} {f : Addr} {fd : FuncData} {N ps : List Str} {k : Nat} {sp : Sp} (F : FunD K x qual params body scope dvs kws f fd) (Sc : FnScope N ps scope) (ln : ∀ vs H Q E, sp vs H Q E → vs.length = ps.length)
    (hB : ∀ (cdv : Value) (A : Around) (outer : List Env) (st : Shared) (H : Hp) (vs : List V) (Q : VK), RoomG k (A.deeper (envOfC qual scope st.heap.objs.size f cdv)) → sp vs H Q E0 → ∃ t, PSs (cxOf CX0 P w K mg base N qual scope f cdv A outer st H E0) body t ∧ t { nx := fun _ H' => Q .non H', rt := Q } (start N vs) H) :
    FnG P w K mg base (k + 1) f fd ps sp := by
  obtain ⟨_, _, _, _, _, _, _, cdv, _, _, rfl, hK, hC, _, _⟩ := F.ex
  exact .body hK hC Sc ln fun A outer st H vs Q hr hsp => hB cdv A outer st H vs Q hr hsp
end
/-- a call's end, where nothing is raised -/
theorem end_call {X : Cx} {pins : List (Addr × Obj)} {σ : Sg} {H : Hp} {st st' : Shared} {Q : VK} {r : Result} (I : L2.Inv X pins σ H st) (h : CR CX0 X.stack X.prog X.w H st Q E0 r st') : ∃ u, r = .ok (.ret u) ∧ EP X pins σ Q u st' := by
  cases r with
  | error e => exact h.elim
  | ok fl =>
    cases fl with
    | ret u => exact ⟨u, rfl, I.after h⟩
    | next => exact h.elim
    | brk => exact h.elim
    | cont => exact h.elim
section
variable {X : Cx} {k n : Nat} {f C : Addr} {fd : FuncData} {ps ks : List Str} {sp : Sp} {dvs : List V} {ds : List Value} {x m : Str} {p pos apos : Pos} {e o : Expr} {es : List Expr} {kws : List Keyword} {ta : TE} {t tk : TA} {g : List Value → List Value → List Value} {gV : List V → List V → List V}
theorem run_g {pins : List (Addr × Obj)} {σ : Sg} {H : Hp} {st : Shared} {Q : VK} {us : List Value} {vs : List V} {A : Around} {Ex : Value → Shared → Prop} (F : FnG X.prog X.w X.K X.mg X.base k f fd ps sp) (hr : RoomG k A) (hA : A.frames = X.A.frames) (hb : Binds X.K fd ps ds) (hd : Vals dvs ds) (I : L2.Inv X pins σ H st) (r : Vals vs us) (h : sp (vs ++ dvs) H Q E0) :
    wpAny (model X.prog X.w) A (call (.ref f) us) (EP X pins σ Q) Ex st := by
  have r2 : Vals (vs ++ dvs) (us ++ ds) := r.append hd
  have e0 : Env0 X.prog X.w X.K X.mg X.base A X.stack st H := ⟨hA.trans I.env0.frames, I.env0.mod, I.env0.bs, I.env0.bsz, I.env0.funs, I.env0.frf, I.env0.hok, I.env0.bare⟩
  exact wpAny_call (codeAny_mono (F.go A X.stack st H ⟨us, []⟩ (us ++ ds) (vs ++ dvs) Q hr e0 (hb st us I.kIn (by rw [← r2.length]; exact F.ln _ _ _ _ h)) r2 h) fun r st' hq => by obtain ⟨u, e, q⟩ := end_call I hq; subst e; exact q)
theorem run_gK {pins : List (Addr × Obj)} {σ : Sg} {H : Hp} {st : Shared} {Q : VK} {us ws : List Value} {vs zs : List V} (F : FnG X.prog X.w X.K X.mg X.base k f fd ps sp) (hr : RoomG k X.A) (hb : KBn X.K fd ps n ks g gV) (I : L2.Inv X pins σ H st) (r : Vals vs us) (rz : Vals zs ws) (l1 : vs.length = n) (l2 : zs.length = ks.length) (h : sp (gV vs zs) H Q E0) :
    wpAny (model X.prog X.w) X.A (call (.ref f) us (ks.zip ws)) (EP X pins σ Q) X.xe st :=
  wpAny_call (codeAny_mono (F.go X.A X.stack st H ⟨us, ks.zip ws⟩ (g us ws) (gV vs zs) Q hr I.env0 (hb.to st us ws I.kIn (r.length.symm.trans l1) (rz.length.symm.trans l2)) (hb.rel r rz) h) fun r st' hq => by obtain ⟨u, e, q⟩ := end_call I hq; subst e; exact q)
theorem pe_cg (F : FnG X.prog X.w X.K X.mg X.base k f fd ps sp) (hr : RoomG k X.A) (hg : Gl X x) (hm : X.mg x = some (.ref f)) (hk : PySem.W.keepIn X.K (.ref f) = true) (hb : Binds X.K fd ps ds) (hd : Vals dvs ds) (ha : PA X (e :: es) t) (hdb : (x == ("__debug__" : Str)) = false := by decide)
    (he : starEach (e :: es) X.env = (false, eval e X.env) :: starEach es X.env := by rfl) (hpl : (backTo pos (starEach es X.env)).any (·.1) = false := by rfl) : PE X (.Call (.Name x p) (e :: es) [] pos) (tCall sp dvs E0 t) :=
  ⟨fun pins st σ H Q I h => wpAny_Call_Name_kw (ld_glob I hg hm (PySem.W.callWith_K (h₀ := X.base) I.ok.mod.kin hk (thn (ha.run pos pins st σ H _ I h) fun us t1 ⟨vs, H1, I1, r, q⟩ => ⟨I1.kIn, run_g F hr rfl hb hd I1 r q⟩) he hpl) hdb)⟩
theorem pe_cg0 (F : FnG X.prog X.w X.K X.mg X.base k f fd ps sp) (hr : RoomG k X.A) (hg : Gl X x) (hm : X.mg x = some (.ref f)) (hk : PySem.W.keepIn X.K (.ref f) = true) (hb : Binds X.K fd ps ds) (hd : Vals dvs ds) (hdb : (x == ("__debug__" : Str)) = false := by decide) :
    PE X (.Call (.Name x p) [] [] pos) (tCall sp dvs E0 tNil) :=
  ⟨fun pins st σ H Q I h => wpAny_Call_Name_kw (ld_glob I hg hm (PySem.W.callWith_K0 I.kIn hk (run_g (us := []) F hr rfl hb hd I .nil h)) hdb)⟩
theorem pe_cgK (F : FnG X.prog X.w X.K X.mg X.base k f fd ps sp) (hr : RoomG k X.A) (hg : Gl X x) (hm : X.mg x = some (.ref f)) (hk : PySem.W.keepIn X.K (.ref f) = true) (hb : KBn X.K fd ps n ks g gV) (ha : PA X (e :: es) t) (hkw : PK X kws tk)
    (hall : (backToKw pos (keywordEach kws X.env)).all (·.1.isSome) = true := by rfl) (hks : (backToKw pos (keywordEach kws X.env)).filterMap (·.1) = ks := by rfl) (hdb : (x == ("__debug__" : Str)) = false := by decide) (he : starEach (e :: es) X.env = (false, eval e X.env) :: starEach es X.env := by rfl)
    (hpl : ((backTo pos (starEach (e :: es) X.env)).any (·.1) || (backToKw pos (keywordEach kws X.env)).any (·.1.isNone)) = false := by rfl) : PE X (.Call (.Name x p) (e :: es) kws pos) (tCallN n ks.length sp gV E0 t tk) := by
  refine ⟨fun pins st σ H Q I h => wpAny_Call_Name_kw (ld_glob I hg hm (PySem.W.callWith_KW (h₀ := X.base) I.ok.mod.kin hk hall (thn (ha.run pos pins st σ H _ I h) fun us t1 ⟨vs, H1, I1, r, q⟩ => thn (hkw.run pos pins t1 σ H1 _ I1 q) fun ws t2 ⟨zs, H2, I2, rz, l1, l2, q2⟩ => ⟨I2.kIn, ?_⟩) hpl he) hdb)⟩
  rw [hks]
  exact run_gK F hr hb I2 r rz l1 l2 q2
/-- f(k = v, ..) -/
theorem pe_cgK0 (F : FnG X.prog X.w X.K X.mg X.base k f fd ps sp) (hr : RoomG k X.A) (hg : Gl X x) (hm : X.mg x = some (.ref f)) (hk : PySem.W.keepIn X.K (.ref f) = true) (hb : KBn X.K fd ps 0 ks g gV) (hkw : PK X kws tk)
    (hall : (backToKw pos (keywordEach kws X.env)).all (·.1.isSome) = true := by rfl) (hks : (backToKw pos (keywordEach kws X.env)).filterMap (·.1) = ks := by rfl) (hdb : (x == ("__debug__" : Str)) = false := by decide)
    (hpl : ((backTo pos (starEach [] X.env)).any (·.1) || (backToKw pos (keywordEach kws X.env)).any (·.1.isNone)) = false := by rfl) : PE X (.Call (.Name x p) [] kws pos) (tCallN 0 ks.length sp gV E0 tNil tk) := by
  refine ⟨fun pins st σ H Q I h => wpAny_Call_Name_kw (ld_glob I hg hm (PySem.W.callWith_KW0 (h₀ := X.base) I.ok.mod.kin hk hall (thn (hkw.run pos pins st σ H _ I h) fun ws t2 ⟨zs, H2, I2, rz, l1, l2, q2⟩ => ⟨I2.kIn, ?_⟩) hpl) hdb)⟩
  rw [hks]
  exact run_gK (us := []) F hr hb I2 .nil rz l1 l2 q2
/-- o.m(..) -/
theorem pe_mg {pl : Sem Bool} (he : PE X o ta) (c : Cls X.K C) (hm : Meth X.K C m f) (F : FnG X.prog X.w X.K X.mg X.base k f fd ps sp) (hr : RoomG k X.A) (hb : Binds X.K fd ps ds) (hd : Vals dvs ds) (ha : PA X (e :: es) t)
    (hst : starEach (e :: es) X.env = (false, eval e X.env) :: starEach es X.env := by rfl) (hpl : (backTo pos (starEach es X.env)).any (·.1) = false := by rfl)
    (ht : eval (.Call (.Attribute o m apos) (e :: es) [] pos) X.env = (eval o X.env >>= fun ov => standAt apos.atName >>= fun _ => holding [ov] (getMethod ov m pl) >>= fun fr => callWith pos fr.1 fr.2 (backTo pos (starEach (e :: es) X.env)) (backToKw pos (keywordEach [] X.env))) := by rfl) :
    PE X (.Call (.Attribute o m apos) (e :: es) [] pos) (tMeth C m sp dvs E0 ta t) := by
  refine ⟨fun pins st σ H Q I h => PySem.W.methodCall_KW (pl := pl) (thn (he.run pins st σ H _ I h) fun u t1 ⟨x, H1, I1, rx, a, dx, fs, ex, ea, l, q⟩ => ?_) ht⟩
  subst ex
  cases rx
  exact getmeth_ok I1 ea c hm l (PySem.W.callWith_K (first := [.ref a]) (h₀ := X.base) I.ok.mod.kin hm.kp (thn (ha.run pos pins t1 σ H1 _ I1 q) fun us t2 ⟨vs, H2, I2, r, q2⟩ => ⟨I2.kIn, run_g (us := .ref a :: us) (vs := .ref a :: vs) F hr rfl hb hd I2 (.cons rfl r) q2⟩) hst hpl)
theorem pe_mg0 {pl : Sem Bool} (he : PE X o ta) (c : Cls X.K C) (hm : Meth X.K C m f) (F : FnG X.prog X.w X.K X.mg X.base k f fd ps sp) (hr : RoomG k X.A) (hb : Binds X.K fd ps ds) (hd : Vals dvs ds)
    (ht : eval (.Call (.Attribute o m apos) [] [] pos) X.env = (eval o X.env >>= fun ov => standAt apos.atName >>= fun _ => holding [ov] (getMethod ov m pl) >>= fun fr => callWith pos fr.1 fr.2 (backTo pos (starEach [] X.env)) (backToKw pos (keywordEach [] X.env))) := by rfl) :
    PE X (.Call (.Attribute o m apos) [] [] pos) (tMeth C m sp dvs E0 ta tNil) := by
  refine ⟨fun pins st σ H Q I h => PySem.W.methodCall_KW (pl := pl) (thn (he.run pins st σ H _ I h) fun u t1 ⟨x, H1, I1, rx, a, dx, fs, ex, ea, l, q⟩ => ?_) ht⟩
  subst ex
  cases rx
  exact getmeth_ok I1 ea c hm l (PySem.W.callWith_K0 (first := [.ref a]) I1.kIn hm.kp (run_g (us := [.ref a]) (vs := [.ref a]) F hr rfl hb hd I1 (.cons rfl .nil) q))
/-- e.f, a property -/
theorem pe_pg {pa : Addr} {fl : Str} (he : PE X e ta) (c : Cls X.K C) (hp : PropOf X.K C fl pa f) (F : FnG X.prog X.w X.K X.mg X.base k f fd ps sp) (hr : RoomG (k + 1) X.A) (hb : Binds X.K fd ps ds) (hd : Vals dvs ds) (hab : attributeBase e fl X.env (eval e X.env) = eval e X.env := by rfl) : PE X (.Attribute e fl pos) (tProp C sp dvs E0 ta) := by
  refine ⟨fun pins st σ H Q I h => attr_of hab (thn (he.run pins st σ H _ I h) fun u t1 ⟨x, H1, I1, rx, a, dx, fs, ex, ea, q⟩ => ?_)⟩
  subst ex
  cases rx
  obtain ⟨mA, O, _, _, _, _⟩ := ins_get I1.hok ea
  obtain ⟨od, J, _⟩ := O.look
  obtain ⟨rest, hrec⟩ := hp.rec_
  have hc : (PySem.W.clsIn X.K C).isSome = true := by
    obtain ⟨cd, z, _⟩ := PySem.W.any_some c.hd
    rw [z]
    rfl
  have I2 := I1.tok (t1.toks + 1)
  have e1 : Env0 X.prog X.w X.K X.mg X.base X.A.in1 X.stack { t1 with toks := t1.toks + 1 } H1 := I2.env0.in1
  have ln : ([Value.ref a] ++ ds).length = ps.length := by
    rw [← F.ln _ _ _ _ q]
    show ds.length + 1 = dvs.length + 1
    rw [hd.length]
  refine PySem.W.get_bind I1.kIn J (PySem.W.plainGet_of (c.get fl)).1 (PySem.W.findObj_data hc hp.at_ hp.get hp.tak) (PySem.W.plainGet_of (c.get fl)).2 (wpAny_call (PySem.W.prop_get (s := { t1 with toks := t1.toks + 1 }) I1.kIn hrec ?_))
  refine codeAny_mono (F.go X.A.in1 X.stack { t1 with toks := t1.toks + 1 } H1 ⟨[.ref a], []⟩ (.ref a :: ds) (.ref a :: dvs) Q hr.in1 e1 (hb _ [.ref a] I2.kIn ln) (.cons rfl hd) q) fun r t2 hq => ?_
  obtain ⟨v, e, y, H2, I3, ry, q3⟩ := end_call I2 hq
  subst e
  show wpAny _ _ (handedOut v) _ _ _
  rw [PySem.W.handedOut_of (handed_of ry)]
  exact wpAny_pure ⟨y, H2, I3, ry, q3⟩
/-- C(..) -/
theorem run_mkg {pins : List (Addr × Obj)} {σ : Sg} {H : Hp} {st : Shared} {Q : VK} {us : List Value} {vs : List V} (M : Mk X.K C f) (F : FnG X.prog X.w X.K X.mg X.base k f fd ps sp) (hr : RoomG (k + 1) X.A) (hb : Binds X.K fd ps ds) (hd : Vals dvs ds) (I : L2.Inv X pins σ H st) (r : Vals vs us)
    (h : ∀ x dx, H x = none → H dx = none → dx ≠ x → sp (.ref x :: (vs ++ dvs)) (upd (upd H dx (.own x)) x (.ins C dx [])) (fun v H2 => v = .non ∧ Q (.ref x) H2) E0) : wpAny (model X.prog X.w) X.A (call (.ref C) us) (EP X pins σ Q) X.xe st := by
  have q := h (st.heap.objs.size + 1) st.heap.objs.size (I.hok.fresh (Nat.le_succ _)) (I.hok.fresh (Nat.le_refl _)) (Nat.ne_of_lt (Nat.lt_succ_self _))
  have J := Inv.made (C := C) I
  have r2 : Vals (V.ref (st.heap.objs.size + 1) :: (vs ++ dvs)) (Value.ref (st.heap.objs.size + 1) :: (us ++ ds)) := .cons rfl (r.append hd)
  have ln : (Value.ref (st.heap.objs.size + 1) :: us ++ ds).length = ps.length := r2.length.symm.trans (F.ln _ _ _ _ q)
  refine wpAny_call (make_map (f := f) I.kIn M.makes M.init (beq_iff_eq.mp M.fn) (codeAny_mono (F.go _ X.stack _ _ ⟨Value.ref (st.heap.objs.size + 1) :: us, []⟩ (Value.ref (st.heap.objs.size + 1) :: (us ++ ds)) _ _ (hr.make C us []) (J.env0.make C us []) (hb _ (Value.ref (st.heap.objs.size + 1) :: us) J.kIn ln) r2 q) fun r st' hq => ?_))
  obtain ⟨u, e, v, H', I3, rv, ev, q3⟩ := end_call J hq
  subst e
  subst ev
  exact ⟨rv, ⟨V.ref (st.heap.objs.size + 1), H', I3, rfl, q3⟩⟩
theorem pe_mkg (M : Mk X.K C f) (F : FnG X.prog X.w X.K X.mg X.base k f fd ps sp) (hr : RoomG (k + 1) X.A) (hg : Gl X x) (hm : X.mg x = some (.ref C)) (hb : Binds X.K fd ps ds) (hd : Vals dvs ds) (ha : PA X (e :: es) t) (hdb : (x == ("__debug__" : Str)) = false := by decide)
    (he : starEach (e :: es) X.env = (false, eval e X.env) :: starEach es X.env := by rfl) (hpl : (backTo pos (starEach es X.env)).any (·.1) = false := by rfl) : PE X (.Call (.Name x p) (e :: es) [] pos) (tMake C sp dvs E0 t) :=
  ⟨fun pins st σ H Q I h => wpAny_Call_Name_kw (ld_glob I hg hm (PySem.W.callWith_K (h₀ := X.base) I.ok.mod.kin M.kp (thn (ha.run pos pins st σ H _ I h) fun us t1 ⟨vs, H1, I1, r, q⟩ => ⟨I1.kIn, run_mkg M F hr hb hd I1 r q⟩) he hpl) hdb)⟩
theorem pe_mkg0 (M : Mk X.K C f) (F : FnG X.prog X.w X.K X.mg X.base k f fd ps sp) (hr : RoomG (k + 1) X.A) (hg : Gl X x) (hm : X.mg x = some (.ref C)) (hb : Binds X.K fd ps ds) (hd : Vals dvs ds) (hdb : (x == ("__debug__" : Str)) = false := by decide) :
    PE X (.Call (.Name x p) [] [] pos) (tMake C sp dvs E0 tNil) :=
  ⟨fun pins st σ H Q I h => wpAny_Call_Name_kw (ld_glob I hg hm (PySem.W.callWith_K0 I.kIn M.kp (run_mkg (us := []) M F hr hb hd I .nil h)) hdb)⟩
end
end G

set_option Elab.async false
set_option linter.all false
set_option maxRecDepth 100000
set_option maxHeartbeats 4000000
namespace G
open PySem PySem.Spec PyProof.Rows L2

/-! ### defs -/
abbrev Fn := List D → List Co → R D
def runF (n np : Nat) (f : Sx) : Fn := fun ds sto => if ds.length = np then
    match f ⟨ds.map Slot.val ++ List.replicate (n - ds.length) Slot.emp, sto⟩ with
    | .ok (.rt d) s => .ok d s
    | .ok .nx s => .ok .non s
    | .exc c d s => .exc c d s
    | _ => .bad
  else .bad
/-- the state without a frame -/
abbrev bareS (sto : List Co) : S := ⟨[], sto⟩
section
variable {w : World} {K : PySem.W.Frag} {T : Tb} {W : Wi} {σ σ' : Sg} {H H' H1 : Hp} {G G' G1 : Wd} {s s1 s' : S} {sto sto' : List Co} {d : D} {v : V} {c : Co} {a : Addr}
theorem StR.bare (I : StR w K T σ H G s) : StR w K T [] H G (bareS s.sto) := by
  refine ⟨rfl, fun i d h => ?_, fun i c h => ?_, fun i j c c' a h => ?_, I.cnt, I.sto, I.inj, fun i c n h => ?_, I.frs⟩ <;> simp at h
theorem bare_tch (h : Tch ([] : Sg) G (bareS sto) a) : ∃ n, n < G.n ∧ G.rho n = a := by
  rcases h with h | ⟨i, c, h, _⟩
  · exact h
  · simp at h
theorem bare_wrt (h : Wrt ([] : Sg) G (bareS sto) a) : ∃ n, n < G.n ∧ G.rho n = a ∧ ∀ kvs, sto[n]? ≠ some (.K kvs) := by
  rcases h with h | ⟨i, c, h, _⟩
  · exact h
  · simp at h
theorem StR.after (I : StR w K T σ H G s) (b : Stp [] H G (bareS s.sto) [] H' G' (bareS sto')) (J : StR w K T [] H' G' (bareS sto')) :
    StR w K T σ H' G' { s with sto := sto' } ∧ Stp σ H G s σ H' G' { s with sto := sto' } := by
  have k : Kp H G H' G' := I.bare.kp b
  have tc : ∀ n, n < G'.n → (∃ m, m < G.n ∧ G.rho m = G'.rho n) ∨ H (G'.rho n) = none := fun n hn => by
    rcases b.tc _ (.inl ⟨n, hn, rfl⟩) with h | h
    · exact .inl (bare_tch h)
    · exact .inr h
  have own : ∀ (i : Nat) (c : Co) (a : Addr), s.env[i]? = some (Slot.own c) → σ[i]? = some (some (V.ref a)) → ∀ m, m < G.n → G.rho m ≠ a := fun i c a h1 h2 m hm e => I.sep i c m h1 hm (by rw [e]; exact h2)
  refine ⟨⟨I.len, fun i d h => ?_, fun i c h => ?_, I.oin, J.cnt, J.sto, J.inj, fun i c n h hn e => ?_, J.frs⟩, ⟨fun x o e n => ?_, b.fr, b.rh, b.le, fun x h => ?_, fun x h => ?_, fun x h => ?_, b.dm⟩⟩
  · obtain ⟨v, h1, h2⟩ := I.val i d h
    exact ⟨v, h1, h2.kp k⟩
  · obtain ⟨x, h1, h2, h3⟩ := I.own i c h
    have no : ¬ Tch ([] : Sg) G (bareS s.sto) x := fun z => let ⟨m, hm, e⟩ := bare_tch z; own i c x h h1 m hm e
    refine ⟨x, h1, h2.kp k fun o e => b.keep x o e fun z => no z.tch, fun z => ?_⟩
    rcases b.nf x z with z | z | z
    · exact h3 z
    · obtain ⟨o, q⟩ := h2.some
      rw [z] at q; cases q
    · exact no z
  · obtain ⟨x, h1, h2, h3⟩ := I.own i c h
    rw [e] at h1; cases h1
    rcases tc n hn with ⟨m, hm, e'⟩ | z
    · exact own i c _ h e m hm e'
    · obtain ⟨o, q⟩ := h2.some
      rw [z] at q; cases q
  · exact b.keep x o e fun z => n (.inl (bare_wrt z))
  · rcases b.nf x h with z | z | z
    · exact .inl z
    · exact .inr (.inl z)
    · exact .inr (.inr (.inl (bare_tch z)))
  · rcases h with ⟨n, hn, e⟩ | h
    · rcases tc n hn with z | z
      · obtain ⟨m, hm, e'⟩ := z
        exact .inl (.inl ⟨m, hm, by rw [e', e]⟩)
      · exact .inr (by rw [← e]; exact z)
    · exact .inl (.inr h)
  · rcases h with h | h
    · rcases b.wc x (.inl h) with z | z
      · exact .inl (.inl (bare_wrt z))
      · exact .inr z
    · exact .inl (.inr h)
end
/-- what a def promises -/
def spG (w : World) (K : PySem.W.Frag) (T : Tb) (F : Fn) : Sp := fun vs H Q _ => ∃ G sto ds, StR w K T [] H G (bareS sto) ∧ RepL w K H G vs ds ∧
  (F ds sto).holds (fun d s' => PV w K T Q [] H G (bareS sto) d (bareS s'.sto)) fun _ _ _ => False
section
variable {w : World} {K : PySem.W.Frag} {T : Tb} {W : Wi} {H : Hp} {G : Wd} {sto : List Co}
theorem start_str {N : List Str} {vs : List V} {ds : List D} (I : StR w K T [] H G (bareS sto)) (r : RepL w K H G vs ds) (hl : ds.length ≤ N.length) :
    StR w K T (L2.start N vs) H G ⟨ds.map Slot.val ++ List.replicate (N.length - ds.length) Slot.emp, sto⟩ ∧ Stp [] H G (bareS sto) (L2.start N vs) H G ⟨ds.map Slot.val ++ List.replicate (N.length - ds.length) Slot.emp, sto⟩ := by
  have noown : ∀ (i : Nat) (c : Co), (ds.map Slot.val ++ List.replicate (N.length - ds.length) Slot.emp)[i]? = some (Slot.own c) → False := fun i c h => by
    have := List.mem_of_getElem? h
    rw [List.mem_append] at this
    rcases this with h | h
    · obtain ⟨d, _, e⟩ := List.mem_map.mp h
      cases e
    · cases (List.mem_replicate.mp h).2
  refine ⟨⟨?_, fun i d h => ?_, fun i c h => (noown i c h).elim, fun i j c c' a h => (noown i c h).elim, I.cnt, I.sto, I.inj, fun i c n h => (noown i c h).elim, I.frs⟩, ⟨fun _ _ e _ => e, fun _ h => h, fun _ _ => rfl, Nat.le_refl _, fun _ h => .inl h, fun a h => ?_, fun a h => ?_, fun _ h => h⟩⟩
  · show (ds.map Slot.val ++ List.replicate (N.length - ds.length) Slot.emp).length = (L2.start N vs).length
    unfold L2.start
    rw [List.length_append, List.length_append, List.length_map, List.length_map, List.length_replicate, List.length_replicate, r.length]
  · have h : (ds.map Slot.val ++ List.replicate (N.length - ds.length) Slot.emp)[i]? = some (Slot.val d) := h
    by_cases hi : i < ds.length
    · rw [List.getElem?_append_left (by simpa using hi), List.getElem?_map] at h
      obtain ⟨d', h1, h2⟩ := Option.map_eq_some_iff.mp h
      cases h2
      obtain ⟨v, h3, h4⟩ := r.get h1
      refine ⟨v, ?_, h4⟩
      unfold L2.start
      rw [List.getElem?_append_left (by rw [List.length_map, r.length]; exact hi), List.getElem?_map, h3]
      rfl
    · rw [List.getElem?_append_right (by simpa using hi)] at h
      cases (List.mem_replicate.mp (List.mem_of_getElem? h)).2
  · rcases h with h | ⟨i, c, h, _⟩
    · exact .inl (.inl h)
    · exact (noown i c h).elim
  · rcases h with h | ⟨i, c, h, _⟩
    · exact .inl (.inl h)
    · exact (noown i c h).elim
theorem runF_len {n np : Nat} {f : Sx} {ds : List D} {P : D → S → Prop} {E : Nat → D → S → Prop} (h : (runF n np f ds sto).holds P E) : ds.length = np := by
  unfold runF at h
  split at h
  · assumption
  · exact h.elim
end
section
variable {P : Program} {w : World} {K : PySem.W.Frag} {mg : Str → Option Value} {base : Heap} {T : Tb}
/-- THE RULE for a def -/
theorem fnG {x qual : Str} {params : Arguments} {body : List Stmt} {scope : Scope} {dvs : List V} {kws : List (Str × V)} {f : Addr} {fd : FuncData} {N ps : List Str} {k : Nat} {fb : Sx}
    (F : FunD K x qual params body scope dvs kws f fd) (Sc : FnScope N ps scope) (hps : ps.length ≤ N.length)
    (hb : ∀ (cdv : Value) (A : Around) (outer : List Env) (s : Shared) (H : Hp), RoomG k (A.deeper (envOfC qual scope s.heap.objs.size f cdv)) → SSs (L2.cxOf CX0 P w K mg base N qual scope f cdv A outer s H E0) T W0 body fb) :
    FnG P w K mg base (k + 1) f fd ps (spG w K T (runF N.length ps.length fb)) := by
  refine FnG.of F Sc (fun vs H Q E ⟨G, sto, ds, I, r, q⟩ => by rw [r.length]; exact runF_len q) fun cdv A outer s H vs Q hr ⟨G, sto, ds, I, r, q⟩ => ?_
  refine ⟨_, hb cdv A outer s H hr, ?_⟩
  have hl : ds.length = ps.length := runF_len q
  obtain ⟨J, b⟩ := start_str (N := N) I r (by rw [hl]; exact hps)
  refine ⟨G, _, J, ?_⟩
  unfold runF at q
  rw [if_pos hl] at q
  have fin : ∀ {σ' : Sg} {H' : Hp} {G' : Wd} {s' : S}, Stp (L2.start N vs) H G ⟨ds.map Slot.val ++ List.replicate (N.length - ds.length) Slot.emp, sto⟩ σ' H' G' s' → StR w K T σ' H' G' s' → Stp [] H G (bareS sto) [] H' G' (bareS s'.sto) := fun {σ' H' G' s'} b2 J2 => by
    have b3 := b.trans b2
    exact ⟨b3.keep, b3.fr, b3.rh, b3.le, b3.nf, fun a h => b3.tc a (.inl (bare_tch h)), fun a h => b3.wc a (.inl (bare_wrt h)), b3.dm⟩
  cases e : fb ⟨ds.map Slot.val ++ List.replicate (N.length - ds.length) Slot.emp, sto⟩ with
  | ok fl s1 =>
    rw [e] at q
    intro σ' H' G' b2 J2
    cases fl with
    | nx => exact q _ _ _ (fin b2 J2) J2.bare .non
    | rt d => exact fun v rv => q _ _ _ (fin b2 J2) J2.bare rv
    | bk => exact q.elim
    | ct => exact q.elim
  | exc c d s1 => rw [e] at q; exact q.elim
  | bad => rw [e] at q; exact q.elim
end
/-! ### calls -/
def callF (F : Fn) (ds : List D) : Ex := fun s => match F ds s.sto with
  | .ok d s' => .ok d { s with sto := s'.sto }
  | .exc c d s' => .exc c d { s with sto := s'.sto }
  | .bad => .bad
def callE (F : Fn) (dds : List D) (fs : Ax) : Ex := fun s => (fs s).bind fun ds s => callF F (ds ++ dds) s
section
variable {w : World} {K : PySem.W.Frag} {T : Tb} {σ : Sg} {H : Hp} {G : Wd} {s : S}
theorem call_sp {F : Fn} {vs : List V} {ds : List D} {Q : VK} {E : XK} (I : StR w K T σ H G s) (r : RepL w K H G vs ds) (h : (callF F ds s).holds (PV w K T Q σ H G s) (PX w K T W0 σ H G s)) : spG w K T F vs H Q E := by
  refine ⟨G, s.sto, ds, I.bare, r, ?_⟩
  unfold callF at h
  cases e : F ds s.sto with
  | ok d s1 =>
    rw [e] at h
    intro H' G' v b J rv
    obtain ⟨J2, b2⟩ := I.after b J
    exact h _ _ _ b2 J2 rv
  | exc c d s1 => rw [e] at h; exact h.1
  | bad => rw [e] at h; exact h
end
section
variable {X : Cx} {T : Tb} {CX : CXT} {k : Nat} {f : Addr} {fd : FuncData} {ps : List Str} {F : Fn} {x : Str} {p pos : Pos} {e : Expr} {es : List Expr} {fs : Ax} {dvs : List V} {ds : List Value} {dds : List D}
/-- the defaults, as values -/
abbrev Dfl (w : World) (K : PySem.W.Frag) (dvs : List V) (dds : List D) : Prop := ∀ H G, RepL w K H G dvs dds
theorem sv_call_of (h : PE X e (tCall (spG X.w X.K T F) dvs E0 (tL X.w X.K T W0 fs))) (hD : Dfl X.w X.K dvs dds) : SV X T W0 e (callE F dds fs) := by
  refine PE.imp h fun σ H Q ⟨G, s, I, q⟩ => ?_
  refine tL_bind I q fun dd s1 H1 G1 vs b J r q => ?_
  exact call_sp J (r.append (hD _ _)) (hV b q)
theorem sv_call0_of (h : PE X e (tCall (spG X.w X.K T F) dvs E0 tNil)) (hD : Dfl X.w X.K dvs dds) : SV X T W0 e (callE F dds nilA) := by
  refine PE.imp h fun σ H Q ⟨G, s, I, q⟩ => ?_
  exact call_sp (E := E0) (ds := dds) I (hD _ _) q
/-- keywords' values -/
def SK (X : Cx) (T : Tb) (W : Wi) (kws : List Keyword) (f : Ax) : Prop := PK X kws (tL X.w X.K T W f)
theorem sk_nil {W : Wi} : SK X T W [] nilA := ⟨fun pos pins s σ H Q I h => pk_nil.run pos pins s σ H Q I (by obtain ⟨G, s, I, q⟩ := h; exact q _ _ _ Stp.refl I .nil)⟩
theorem sk_cons {W : Wi} {nm : Option Str} {kpos : Pos} {kws : List Keyword} {f : Ex} (h : SV X T W e f) (hs : SK X T W kws fs) : SK X T W (⟨nm, e, kpos⟩ :: kws) (consA f fs) :=
  ⟨fun pos pins s σ H Q I h' => (pk_cons h hs).run pos pins s σ H Q I (by
    obtain ⟨G, s, I, q⟩ := h'
    refine tV_bind I q fun d s1 H1 G1 v b J r q => ?_
    refine tL_bind J (hL b q) fun ds s2 H2 G2 vs b2 J2 r2 q2 => ?_
    exact q2 _ _ _ b2 J2 (.cons (r.kp (J.kp b2)) r2))⟩
/-- a call with keywords: gD puts the written values and the keywords' values in the parameters' order -/
def callKE (n m : Nat) (F : Fn) (gD : List D → List D → List D) (fs ks : Ax) : Ex := fun s => (fs s).bind fun ds s => (ks s).bind fun es s => if ds.length = n ∧ es.length = m then callF F (gD ds es) s else .bad
/-- the parameters' order holds of values -/
def KOrd (w : World) (K : PySem.W.Frag) (n m : Nat) (gV : List V → List V → List V) (gD : List D → List D → List D) : Prop := ∀ H G vs zs ds es, vs.length = n → zs.length = m → RepL w K H G vs ds → RepL w K H G zs es → RepL w K H G (gV vs zs) (gD ds es)
theorem sv_callN_of {n m : Nat} {gV : List V → List V → List V} {gD : List D → List D → List D} {fk : Ax} (h : PE X e (tCallN n m (spG X.w X.K T F) gV E0 (tL X.w X.K T W0 fs) (tL X.w X.K T W0 fk))) (hD : KOrd X.w X.K n m gV gD) : SV X T W0 e (callKE n m F gD fs fk) := by
  refine PE.imp h fun σ H Q ⟨G, s, I, q⟩ => ?_
  refine tL_bind I q fun dd s1 H1 G1 vs b J r q => ?_
  refine tL_bind J (hV b q) fun de s2 H2 G2 zs b2 J2 r2 q2 => ?_
  split at q2
  · rename_i hl
    exact ⟨by rw [r.length]; exact hl.1, by rw [r2.length]; exact hl.2, call_sp J2 (hD _ _ _ _ _ _ (by rw [r.length]; exact hl.1) (by rw [r2.length]; exact hl.2) (r.kp (J.kp b2)) r2) (hV b2 q2)⟩
  · exact q2.elim
/-! ### instances -/
structure Kl (K : PySem.W.Frag) (T : Tb) : Prop where
  cls : ∀ c, c < T.nc → Cls K (T.cls c)
  no : ∀ c f, c < T.nc → f ∈ T.an → NoAttr K (T.cls c) f
def lookN (i : Nat) : List (Nat × D) → Option D
  | [] => none
  | (j, d) :: r => if j = i then some d else lookN i r
def putN (i : Nat) (d : D) : List (Nat × D) → List (Nat × D)
  | [] => [(i, d)]
  | (j, e) :: r => if j = i then (j, d) :: r else (j, e) :: putN i d r
theorem an_inj {T : Tb} {i j : Nat} {f : Str} (h1 : T.an[i]? = some f) (h2 : T.an[j]? = some f) : i = j := nodup_ix T.nd h1 h2
theorem FR.look {w : World} {K : PySem.W.Frag} {H : Hp} {G : Wd} {i : Nat} {f : Str} (hi : T.an[i]? = some f) : ∀ {gs : List (Str × V)} {fs : List (Nat × D)} {d : D}, FR w K T H G gs fs → lookN i fs = some d → ∃ v, gs.lookup f = some v ∧ Rep w K H G v d
  | _, _, _, .nil, h => by cases h
  | _, _, d, .cons (nm := nm) (i := j) a b c, h => by
    unfold lookN at h
    rw [List.lookup_cons]
    by_cases e : j = i
    · rw [if_pos e] at h
      cases h
      rw [e, hi] at a
      cases a
      exact ⟨_, by simp, b⟩
    · rw [if_neg e] at h
      have ne : (f == nm) = false := beq_eq_false_iff_ne.mpr fun z => e (an_inj (by rw [z]; exact a) hi)
      rw [ne]
      exact FR.look hi c h
theorem FR.put {w : World} {K : PySem.W.Frag} {H : Hp} {G : Wd} {i : Nat} {f : Str} {v : V} {d : D} (hi : T.an[i]? = some f) (r : Rep w K H G v d) : ∀ {gs : List (Str × V)} {fs : List (Nat × D)}, FR w K T H G gs fs → FR w K T H G (putF f v gs) (putN i d fs)
  | _, _, .nil => .cons hi r .nil
  | _, _, .cons (nm := nm) (i := j) a b c => by
    unfold putF putN
    by_cases e : j = i
    · have e' : nm = f := by rw [e, hi] at a; exact (Option.some.inj a).symm
      rw [if_pos e, if_pos e']
      exact .cons a r c
    · have e' : ¬ nm = f := fun z => e (an_inj (by rw [← z]; exact a) hi)
      rw [if_neg e, if_neg e']
      exact .cons a b (FR.put hi r c)
theorem FR.length {w : World} {K : PySem.W.Frag} {H : Hp} {G : Wd} : ∀ {gs : List (Str × V)} {fs : List (Nat × D)}, FR w K T H G gs fs → gs.length = fs.length
  | _, _, .nil => rfl
  | _, _, .cons _ _ c => by simp [FR.length c]
theorem FR.none {w : World} {K : PySem.W.Frag} {H : Hp} {G : Wd} {m : Str} (hm : m ∉ T.an) : ∀ {gs : List (Str × V)} {fs : List (Nat × D)}, FR w K T H G gs fs → gs.lookup m = Option.none
  | _, _, .nil => rfl
  | _, _, .cons (nm := nm) a b c => by
    rw [List.lookup_cons]
    have ne : (m == nm) = false := beq_eq_false_iff_ne.mpr fun z => hm (by rw [z]; exact List.mem_of_getElem? a)
    rw [ne]
    exact FR.none hm c
/-- an instance in hand -/
def insOf (s : S) : D → Option (Nat × List (Nat × D))
  | .cel n => (match s.sto[n]? with
    | some (.I c fs) => some (c, fs)
    | _ => none)
  | _ => none
theorem insOf_ok {w : World} {K : PySem.W.Frag} {σ : Sg} {H : Hp} {G : Wd} {s : S} {v : V} {d : D} {c : Nat} {fs : List (Nat × D)} (I : StR w K T σ H G s) (r : RepT w K σ H G s v d) (h : insOf s d = some (c, fs)) :
    ∃ n dx gs, d = .cel n ∧ n < G.n ∧ v = .ref (G.rho n) ∧ c < T.nc ∧ H (G.rho n) = some (.ins (T.cls c) dx gs) ∧ FR w K T H G gs fs ∧ s.sto[n]? = some (.I c fs) := by
  cases d with
  | cel n =>
    cases r with
    | cel hn =>
      simp only [insOf] at h
      split at h
      · rename_i c' fs' q
        cases h
        obtain ⟨⟨hc, dx, gs, h1, h2⟩, _⟩ := I.sto n _ q
        exact ⟨n, dx, gs, rfl, hn, rfl, hc, h1, h2, q⟩
      · cases h
  | _ => cases h
def fldE (i : Nat) (f : Ex) : Ex := fun s => (f s).bind fun d s => match insOf s d with
  | some (_, fs) => (match lookN i fs with
    | some e => .ok e s
    | none => .bad)
  | none => .bad
theorem sv_fld {W : Wi} {i : Nat} {fn : Str} {g : Ex} (kl : Kl X.K T) (hi : T.an[i]? = some fn) (h : SO X T W e g) (hb : attributeBase e fn X.env (eval e X.env) = eval e X.env := by rfl) : SV X T W (.Attribute e fn pos) (fldE i g) := by
  refine PE.imp (pe_fld h hb) fun σ H Q ⟨G, s, I, q⟩ => ?_
  refine tO_bind I q fun d s1 H1 G1 v b J r q => ?_
  cases h1 : insOf s1 d with
  | none => rw [h1] at q; exact q.elim
  | some cf =>
    obtain ⟨c, fs⟩ := cf
    rw [h1] at q
    cases h2 : lookN i fs with
    | none => simp only [h2] at q; exact q.elim
    | some d' =>
      simp only [h2] at q
      obtain ⟨n, dx, gs, rfl, hn, rfl, hc, h3, h4, _⟩ := insOf_ok J r h1
      obtain ⟨u, h5, h6⟩ := h4.look hi h2
      exact ⟨_, _, dx, gs, u, rfl, h3, kl.cls c hc, kl.no c fn hc (List.mem_of_getElem? hi), h5, q _ _ _ b J h6⟩
/-- e.f = value -/
def fldS (i : Nat) (fv fo : Ex) : Sx := fun s => (fv s).bind fun y s => (fo s).bind fun d s => match d, insOf s d with
  | .cel n, some (c, fs) => if fs.length < 1000 then .ok .nx { s with sto := s.sto.set n (.I c (putN i y fs)) } else .bad
  | _, _ => .bad
theorem ss_fld {W : Wi} {i : Nat} {fn : Str} {fv fo : Ex} {o value : Expr} {pos' : Pos} (kl : Kl X.K T) (hi : T.an[i]? = some fn) (ho : SO X T W o fo) (hv : SV X T W value fv) (hs : swapsWith value (some (.Attribute o fn pos')) pos.line X.env = pure false := by rfl) :
    SS X T W (.Assign [.Attribute o fn pos'] value pos) (fldS i fv fo) := by
  refine PS.imp (ps_fld ho hv hs) fun E σ H ⟨G, s, I, q⟩ => ?_
  refine tV_bind I (hX q) fun y s1 H1 G1 v b J r q => ?_
  refine tO_bind J (R.holds_mono q (fun _ _ p => p) fun _ _ _ p => PX.tr b p) fun d s2 H2 G2 u b2 J2 r2 q => ?_
  split at q
  · rename_i n c fs h1
    split at q
    · rename_i hl
      obtain ⟨n', dx, gs, e', hn, rfl, hc, h3, h4, h5⟩ := insOf_ok J2 r2 h1
      cases e'
      obtain ⟨J3, b3⟩ := write_cell (o := .ins (T.cls c) dx (putF fn v gs)) (c' := .I c (putN i y fs)) J2 hn (fun _ z => by rw [h5] at z; cases z) fun k => ⟨hc, dx, _, upd_same, (h4.put hi (r.kp (J.kp b2))).kp k⟩
      exact ⟨_, _, dx, gs, rfl, h3, kl.cls c hc, kl.no c fn hc (List.mem_of_getElem? hi), by rw [h4.length]; exact hl, q _ _ _ ((b.trans b2).trans b3) J3⟩
    · exact q.elim
  · exact q.elim
/-- o.m(..) -/
def methE (c : Nat) (F : Fn) (dds : List D) (fo : Ex) (fs : Ax) : Ex := fun s => (fo s).bind fun d s => match insOf s d with
  | some (c', _) => if c' = c then (fs s).bind fun ds s => callF F (d :: (ds ++ dds)) s else .bad
  | none => .bad
theorem sv_meth_of {c : Nat} {m : Str} {fo : Ex} (hmn : m ∉ T.an) (h : PE X e (tMeth (T.cls c) m (spG X.w X.K T F) dvs E0 (tO X.w X.K T W0 fo) (tL X.w X.K T W0 fs))) (hD : Dfl X.w X.K dvs dds) : SV X T W0 e (methE c F dds fo fs) := by
  refine PE.imp h fun σ H Q ⟨G, s, I, q⟩ => ?_
  refine tO_bind I q fun d s1 H1 G1 v b J r q => ?_
  cases h1 : insOf s1 d with
  | none => rw [h1] at q; exact q.elim
  | some cf =>
    obtain ⟨c', gs'⟩ := cf
    simp only [h1] at q
    split at q
    · rename_i ec
      obtain ⟨n, dx, gs, rfl, hn, rfl, hc, h3, h4, _⟩ := insOf_ok J r h1
      refine ⟨_, dx, gs, rfl, by rw [h3, ec], h4.none hmn, ?_⟩
      refine tL_bind J (hV b q) fun ds s2 H2 G2 vs b2 J2 r2 q2 => ?_
      have rn : Rep X.w X.K H2 G2 (.ref (G1.rho n)) (.cel n) := Rep.kp (J.kp b2) (.cel hn)
      exact call_sp J2 (.cons rn (r2.append (hD _ _))) (hV b2 q2)
    · exact q.elim
theorem sv_meth0_of {c : Nat} {m : Str} {fo : Ex} (hmn : m ∉ T.an) (h : PE X e (tMeth (T.cls c) m (spG X.w X.K T F) dvs E0 (tO X.w X.K T W0 fo) tNil)) (hD : Dfl X.w X.K dvs dds) : SV X T W0 e (methE c F dds fo nilA) := by
  refine PE.imp h fun σ H Q ⟨G, s, I, q⟩ => ?_
  refine tO_bind I q fun d s1 H1 G1 v b J r q => ?_
  cases h1 : insOf s1 d with
  | none => rw [h1] at q; exact q.elim
  | some cf =>
    obtain ⟨c', gs'⟩ := cf
    simp only [h1] at q
    split at q
    · rename_i ec
      obtain ⟨n, dx, gs, rfl, hn, rfl, hc, h3, h4, _⟩ := insOf_ok J r h1
      refine ⟨_, dx, gs, rfl, by rw [h3, ec], h4.none hmn, ?_⟩
      have rn : Rep X.w X.K H1 G1 (.ref (G1.rho n)) (.cel n) := .cel hn
      exact call_sp (E := E0) J (.cons rn (hD _ _)) (hV b q)
    · exact q.elim
/-- e.f, a property -/
def propE (c : Nat) (F : Fn) (dds : List D) (fo : Ex) : Ex := methE c F dds fo nilA
theorem sv_prop_of {c : Nat} {fo : Ex} (h : PE X e (tProp (T.cls c) (spG X.w X.K T F) dvs E0 (tO X.w X.K T W0 fo))) (hD : Dfl X.w X.K dvs dds) : SV X T W0 e (propE c F dds fo) := by
  refine PE.imp h fun σ H Q ⟨G, s, I, q⟩ => ?_
  refine tO_bind I q fun d s1 H1 G1 v b J r q => ?_
  cases h1 : insOf s1 d with
  | none => rw [h1] at q; exact q.elim
  | some cf =>
    obtain ⟨c', gs'⟩ := cf
    simp only [h1] at q
    split at q
    · rename_i ec
      obtain ⟨n, dx, gs, rfl, hn, rfl, hc, h3, h4, _⟩ := insOf_ok J r h1
      refine ⟨_, dx, gs, rfl, by rw [h3, ec], ?_⟩
      have rn : Rep X.w X.K H1 G1 (.ref (G1.rho n)) (.cel n) := .cel hn
      exact call_sp (E := E0) J (.cons rn (hD _ _)) (hV b q)
    · exact q.elim
/-- C(..) -/
def newF (c : Nat) (F : Fn) (ds : List D) : Ex := fun s => match callF F (.cel s.sto.length :: ds) { s with sto := s.sto ++ [.I c []] } with
  | .ok .non s' => .ok (.cel s.sto.length) s'
  | .exc c d s' => .exc c d s'
  | _ => .bad
def makeE (c : Nat) (F : Fn) (dds : List D) (fs : Ax) : Ex := fun s => (fs s).bind fun ds s => newF c F (ds ++ dds) s
theorem make_sp {w : World} {K : PySem.W.Frag} {c : Nat} {vs : List V} {ds : List D} {Q : VK} {E : XK} {σ : Sg} {H : Hp} {G : Wd} {s : S} (hc : c < T.nc) (I : StR w K T σ H G s) (r : RepL w K H G vs ds) (h : (newF c F ds s).holds (PV w K T Q σ H G s) (PX w K T W0 σ H G s)) :
    ∀ x dx, H x = none → H dx = none → dx ≠ x → spG w K T F (.ref x :: vs) (upd (upd H dx (.own x)) x (.ins (T.cls c) dx [])) (fun v H2 => v = .non ∧ Q (.ref x) H2) E := fun x dx hx hdx ne => by
  have I1 : StR w K T σ (upd H dx (.own x)) G s := I.fresh0 hdx
  have b1 : Stp σ H G s σ (upd H dx (.own x)) G s := Stp.fresh0 hdx
  have hx1 : upd H dx (.own x) x = none := by rw [upd_ne (Ne.symm ne)]; exact hx
  have I2 : StR w K T σ (upd (upd H dx (.own x)) x (.ins (T.cls c) dx [])) (G.cell x) { s with sto := s.sto ++ [.I c []] } := I1.ncell hx1 ⟨hc, dx, [], upd_same, .nil⟩
  have b2 : Stp σ (upd H dx (.own x)) G s σ (upd (upd H dx (.own x)) x (.ins (T.cls c) dx [])) (G.cell x) { s with sto := s.sto ++ [.I c []] } := Stp.ncell hx1
  have rx : Rep w K (upd (upd H dx (.own x)) x (.ins (T.cls c) dx [])) (G.cell x) (.ref x) (.cel s.sto.length) := by
    have := Rep.cel (w := w) (K := K) (H := upd (upd H dx (.own x)) x (.ins (T.cls c) dx [])) (G := G.cell x) (n := G.n) (Nat.lt_succ_self _)
    rw [Wd.cell_new] at this
    rw [I.cnt]
    exact this
  refine call_sp (σ := σ) I2 (.cons rx ((r.kp (I.kp b1)).kp (I1.kp b2))) ?_
  unfold newF at h
  cases e : callF F (.cel s.sto.length :: ds) { s with sto := s.sto ++ [.I c []] } with
  | ok d s1 =>
    rw [e] at h
    cases d with
    | non =>
      intro H' G' v b J rv
      cases rv
      refine ⟨rfl, h _ _ _ ((b1.trans b2).trans b) J (rx.kp (I2.kp b))⟩
    | _ => exact h.elim
  | exc c d s1 => rw [e] at h; exact h.1.elim
  | bad => rw [e] at h; exact h
theorem sv_make_of {c : Nat} (hc : c < T.nc) (h : PE X e (tMake (T.cls c) (spG X.w X.K T F) dvs E0 (tL X.w X.K T W0 fs))) (hD : Dfl X.w X.K dvs dds) : SV X T W0 e (makeE c F dds fs) := by
  refine PE.imp h fun σ H Q ⟨G, s, I, q⟩ => ?_
  refine tL_bind I q fun dd s1 H1 G1 vs b J r q => ?_
  exact make_sp hc J (r.append (hD _ _)) (hV b q)
theorem sv_make0_of {c : Nat} (hc : c < T.nc) (h : PE X e (tMake (T.cls c) (spG X.w X.K T F) dvs E0 tNil)) (hD : Dfl X.w X.K dvs dds) : SV X T W0 e (makeE c F dds nilA) := by
  refine PE.imp h fun σ H Q ⟨G, s, I, q⟩ => ?_
  exact make_sp hc I (hD _ _) q
end
end G

set_option Elab.async false
set_option linter.all false
set_option maxRecDepth 100000
set_option maxHeartbeats 4000000
namespace G
open PySem PySem.Spec PyProof.Rows L2

section
variable {w : World} {K : PySem.W.Frag} {T : Tb} {W : Wi} {σ σ' : Sg} {H H1 H' : Hp} {G G1 G' : Wd} {s s1 s' : S}
theorem rV_bind {α : Type} {r0 : R D} {r : D → S → R α} {P : α → S → Prop} {E : Nat → D → S → Prop} {Q1 : VK} (h : (r0.bind r).holds P E)
    (k : ∀ d s1 H1 G1 v, Stp σ H G s σ H1 G1 s1 → StR w K T σ H1 G1 s1 → Rep w K H1 G1 v d → (r d s1).holds P E → Q1 v H1) : r0.holds (PV w K T Q1 σ H G s) E := by
  cases r0 with
  | ok d s1 => exact fun H1 G1 v b J q => k d s1 H1 G1 v b J q h
  | exc c d s1 => exact h
  | bad => exact h
/-! ### values in hand, one by one -/
def RepTL (w : World) (K : PySem.W.Frag) (σ : Sg) (H : Hp) (G : Wd) (s : S) : List V → List D → Prop
  | [], [] => True
  | v :: vs, d :: ds => RepT w K σ H G s v d ∧ RepTL w K σ H G s vs ds
  | _, _ => False
def PLO (w : World) (K : PySem.W.Frag) (T : Tb) (Q : List V → Hp → Prop) (σ : Sg) (H : Hp) (G : Wd) (s : S) (ds : List D) (s' : S) : Prop := ∀ H' G' vs, Stp σ H G s σ H' G' s' → StR w K T σ H' G' s' → RepTL w K σ H' G' s' vs ds → Q vs H'
def tLO (w : World) (K : PySem.W.Frag) (T : Tb) (W : Wi) (f : Ax) : TA := fun σ H Q => ∃ G s, StR w K T σ H G s ∧ (f s).holds (PLO w K T Q σ H G s) (PX w K T W σ H G s)
theorem hLO {Q : List V → Hp → Prop} {r : R (List D)} (b : Stp σ H G s σ H1 G1 s1) (h : r.holds (PLO w K T Q σ H G s) (PX w K T W σ H G s)) : r.holds (PLO w K T Q σ H1 G1 s1) (PX w K T W σ H1 G1 s1) :=
  R.holds_mono h (fun _ _ p H' G' vs b2 J r => p H' G' vs (b.trans b2) J r) (fun _ _ _ => PX.tr b)
theorem tLO_bind {α : Type} {f : Ax} {r : List D → S → R α} {P : α → S → Prop} {Q1 : List V → Hp → Prop} (I : StR w K T σ H G s) (h : ((f s).bind r).holds P (PX w K T W σ H G s))
    (k : ∀ d s1 H1 G1 v, Stp σ H G s σ H1 G1 s1 → StR w K T σ H1 G1 s1 → RepTL w K σ H1 G1 s1 v d → (r d s1).holds P (PX w K T W σ H G s) → Q1 v H1) : tLO w K T W f σ H Q1 := by
  refine ⟨G, s, I, ?_⟩
  cases e : f s with
  | ok d s1 => rw [e] at h; exact fun H1 G1 v b J q => k d s1 H1 G1 v b J q h
  | exc c d s1 => rw [e] at h; exact h
  | bad => rw [e] at h; exact h
end
def SLO (X : Cx) (T : Tb) (W : Wi) (es : List Expr) (f : Ax) : Prop := PA X es (tLO X.w X.K T W f)
section
variable {X : Cx} {T : Tb} {W : Wi} {pos p : Pos}
theorem slo_nil : SLO X T W [] nilA := PA.imp pa_nil fun σ H Q ⟨G, s, I, q⟩ => q _ _ _ Stp.refl I trivial
theorem slo_cons {e : Expr} {es : List Expr} {f : Ex} {fs : Ax} (h : SO X T W e f) (hs : SLO X T W es fs) (hst : starEach (e :: es) X.env = (false, eval e X.env) :: starEach es X.env := by rfl) : SLO X T W (e :: es) (consA f fs) := by
  refine PA.imp (pa_cons h hs hst) fun σ H Q ⟨G, s, I, q⟩ => ?_
  refine tO_bind I q fun d s1 H1 G1 v b J r q => ?_
  refine tLO_bind J (hLO b q) fun ds s2 H2 G2 vs b2 J2 r2 q2 => ?_
  exact q2 _ _ _ b2 J2 ⟨r.step J b2 J2, r2⟩
/-! ### built-in functions -/
/-- a function of values in hand -/
abbrev Op := List D → Ex
def biE (op : Op) (fs : Ax) : Ex := fun s => (fs s).bind fun ds s => op ds s
/-- what a rule of the kit gives of it -/
def OpOk (X : Cx) (T : Tb) (W : Wi) (op : Op) (r : List V → Hp → VK → Prop) : Prop := ∀ (σ : Sg) (H : Hp) (G : Wd) (s : S) (xs : List V) (ds : List D) (Q : VK), StR X.w X.K T σ H G s → RepTL X.w X.K σ H G s xs ds →
  (op ds s).holds (PV X.w X.K T Q σ H G s) (PX X.w X.K T W σ H G s) → r xs H Q
theorem sv_tCB {e : Expr} {op : Op} {r : List V → Hp → VK → Prop} {fs : Ax} (ok : OpOk X T W op r) (h : PE X e (tCB r (tLO X.w X.K T W fs))) : SV X T W e (biE op fs) := by
  refine PE.imp h fun σ H Q ⟨G, s, I, q⟩ => ?_
  refine tLO_bind I q fun ds s1 H1 G1 vs b J r q => ?_
  exact ok _ _ _ _ _ _ _ J r (hV b q)
theorem sv_bi {x : Str} {id : String} {e : Expr} {es : List Expr} {op : Op} {r : List V → Hp → VK → Prop} {fs : Ax} (ok : OpOk X T W op r) (hc : CallR X (.builtin id) r) (hg : Gl X x) (hm : X.mg x = none) (hv : bootBuiltins x = some (.builtin id)) (ha : SLO X T W (e :: es) fs) (hn : x ≠ "__name__" := by decide) (hdb : (x == ("__debug__" : Str)) = false := by decide)
    (he : starEach (e :: es) X.env = (false, eval e X.env) :: starEach es X.env := by rfl) (hpl : (backTo pos (starEach es X.env)).any (·.1) = false := by rfl) : SV X T W (.Call (.Name x p) (e :: es) [] pos) (biE op fs) :=
  sv_tCB ok (pe_callB hc hg hm hv ha hn hdb he hpl)
theorem sv_ty {x : Str} {id : String} {e : Expr} {es : List Expr} {op : Op} {r : List V → Hp → VK → Prop} {fs : Ax} (ok : OpOk X T W op r) (hc : CallR X (.type id) r) (hg : Gl X x) (hm : X.mg x = none) (hv : bootBuiltins x = some (.type id)) (ha : SLO X T W (e :: es) fs) (hn : x ≠ "__name__" := by decide) (hdb : (x == ("__debug__" : Str)) = false := by decide)
    (he : starEach (e :: es) X.env = (false, eval e X.env) :: starEach es X.env := by rfl) (hpl : (backTo pos (starEach es X.env)).any (·.1) = false := by rfl) : SV X T W (.Call (.Name x p) (e :: es) [] pos) (biE op fs) :=
  sv_tCB ok (pe_callTy hc hg hm hv ha hn hdb he hpl)
theorem RepTL.one {w : World} {K : PySem.W.Frag} {σ : Sg} {H : Hp} {G : Wd} {s : S} {xs : List V} {d : D} (h : RepTL w K σ H G s xs [d]) : ∃ v, xs = [v] ∧ RepT w K σ H G s v d := by
  match xs, h with
  | [v], h => exact ⟨v, rfl, h.1⟩
theorem RepTL.two {w : World} {K : PySem.W.Frag} {σ : Sg} {H : Hp} {G : Wd} {s : S} {xs : List V} {d e : D} (h : RepTL w K σ H G s xs [d, e]) : ∃ v u, xs = [v, u] ∧ RepT w K σ H G s v d ∧ RepT w K σ H G s u e := by
  match xs, h with
  | [v, u], h => exact ⟨v, u, rfl, h.1, h.2.1⟩
theorem done {w : World} {K : PySem.W.Frag} {σ : Sg} {H : Hp} {G : Wd} {s : S} {Q : VK} {d : D} {v : V} {E : Nat → D → S → Prop} (I : StR w K T σ H G s) (h : (R.ok d s).holds (PV w K T Q σ H G s) E) (r : Rep w K H G v d) : Q v H := h _ _ _ Stp.refl I r
theorem done_new {w : World} {K : PySem.W.Frag} {σ : Sg} {H : Hp} {G : Wd} {s : S} {Q : VK} {d : D} {o : HO} {p : Addr} {E : Nat → D → S → Prop} (I : StR w K T σ H G s) (h : (R.ok d s).holds (PV w K T Q σ H G s) E) (hp : H p = none)
    (r : Kp H G (upd H p o) { G with F := fun a => G.F a ∨ a = p } → Rep w K (upd H p o) { G with F := fun a => G.F a ∨ a = p } (.ref p) d) : Q (.ref p) (upd H p o) := h _ _ _ (Stp.fresh hp) (I.fresh hp) (r (I.kp (Stp.fresh hp)))
theorem RepL.vals_int {w : World} {K : PySem.W.Frag} {H : Hp} {G : Wd} : ∀ {vs : List V} {ds : List D} {ns : List Int}, RepL w K H G vs ds → ds = ns.map D.int → vs = ns.map V.int
  | _, _, [], .nil, _ => rfl
  | _, _, n :: ns, .cons r t, e => by
    rw [List.map_cons] at e
    injection e with e1 e2
    subst e1
    cases r
    rw [RepL.vals_int t e2]
    rfl
  | _, _, _ :: _, .nil, e => by cases e
  | _, _, [], .cons _ _, e => by cases e
theorem RepL.vals_bl {w : World} {K : PySem.W.Frag} {H : Hp} {G : Wd} : ∀ {vs : List V} {ds : List D} {ns : List Bool}, RepL w K H G vs ds → ds = ns.map D.bl → vs = ns.map V.bl
  | _, _, [], .nil, _ => rfl
  | _, _, n :: ns, .cons r t, e => by
    rw [List.map_cons] at e
    injection e with e1 e2
    subst e1
    cases r
    rw [RepL.vals_bl t e2]
    rfl
  | _, _, _ :: _, .nil, e => by cases e
  | _, _, [], .cons _ _, e => by cases e
theorem RepL.vals_str {w : World} {K : PySem.W.Frag} {H : Hp} {G : Wd} : ∀ {vs : List V} {ds : List D} {ns : List (List Nat)}, RepL w K H G vs ds → ds = ns.map D.str → vs = (ns.map toStr).map V.str
  | _, _, [], .nil, _ => rfl
  | _, _, n :: ns, .cons r t, e => by
    rw [List.map_cons] at e
    injection e with e1 e2
    subst e1
    cases r
    rw [RepL.vals_str t e2]
    rfl
  | _, _, _ :: _, .nil, e => by cases e
  | _, _, [], .cons _ _, e => by cases e
def intsOf : List D → Option (List Int)
  | [] => some []
  | .int i :: r => (intsOf r).map (i :: ·)
  | _ => none
def blsOf : List D → Option (List Bool)
  | [] => some []
  | .bl i :: r => (blsOf r).map (i :: ·)
  | _ => none
def strsOf : List D → Option (List (List Nat))
  | [] => some []
  | .str i :: r => (strsOf r).map (i :: ·)
  | _ => none
theorem intsOf_ok : ∀ {ds : List D} {ns : List Int}, intsOf ds = some ns → ds = ns.map D.int
  | [], _, e => by cases e; rfl
  | .int i :: r, ns, e => by
    obtain ⟨ms, h1, h2⟩ := Option.map_eq_some_iff.mp e
    subst h2
    rw [intsOf_ok h1]
    rfl
theorem blsOf_ok : ∀ {ds : List D} {ns : List Bool}, blsOf ds = some ns → ds = ns.map D.bl
  | [], _, e => by cases e; rfl
  | .bl i :: r, ns, e => by
    obtain ⟨ms, h1, h2⟩ := Option.map_eq_some_iff.mp e
    subst h2
    rw [blsOf_ok h1]
    rfl
theorem strsOf_ok : ∀ {ds : List D} {ns : List (List Nat)}, strsOf ds = some ns → ds = ns.map D.str
  | [], _, e => by cases e; rfl
  | .str i :: r, ns, e => by
    obtain ⟨ms, h1, h2⟩ := Option.map_eq_some_iff.mp e
    subst h2
    rw [strsOf_ok h1]
    rfl
/-- len -/
def lenO : Op := fun ds s => match ds with
  | [.str x] => if x.length ≤ line then .ok (.int x.length) s else .bad
  | [d] => (match seqOf s d with
    | some xs => .ok (.int xs.length) s
    | none => .bad)
  | _ => .bad
theorem len_ok : OpOk X T W lenO (fun xs H Q => (∃ p ys, xs = [.ref p] ∧ (SqL X.K H p ys ∨ SqT X.K H p ys) ∧ Q (.int ys.length) H) ∨ ∃ z, xs = [.str z] ∧ z.length ≤ sizeLine ∧ Q (.int z.length) H) := fun σ H G s xs ds Q I r q => by
  have seq : ∀ {d : D}, RepTL X.w X.K σ H G s xs [d] → (match seqOf s d with | some xs => R.ok (D.int xs.length) s | none => R.bad).holds (PV X.w X.K T Q σ H G s) (PX X.w X.K T W σ H G s) →
      (∃ p ys, xs = [.ref p] ∧ (SqL X.K H p ys ∨ SqT X.K H p ys) ∧ Q (.int ys.length) H) ∨ ∃ z, xs = [.str z] ∧ z.length ≤ sizeLine ∧ Q (.int z.length) H := fun {d} r q => by
    cases e : seqOf s d with
    | none => rw [e] at q; exact q.elim
    | some ys =>
      rw [e] at q
      obtain ⟨v, rfl, r1⟩ := r.one
      obtain ⟨a, vs, rfl, h2, h3⟩ := seqOf_ok I r1 e
      exact Or.inl ⟨a, vs, rfl, h2, by rw [h3.length]; exact done I q (.int _)⟩
  unfold lenO at q
  split at q
  · split at q
    · rename_i x hl
      obtain ⟨v, rfl, r1⟩ := r.one
      cases r1
      exact .inr ⟨_, rfl, by rw [length_toStr, line_eq]; exact hl, by rw [length_toStr]; exact done I q (.int _)⟩
    · exact q.elim
  · exact seq r q
  · exact q.elim
theorem cr_len : CallR X (.builtin "len") (fun xs H Q => (∃ p ys, xs = [.ref p] ∧ (SqL X.K H p ys ∨ SqT X.K H p ys) ∧ Q (.int ys.length) H) ∨ ∃ z, xs = [.str z] ∧ z.length ≤ sizeLine ∧ Q (.int z.length) H) := call_len_seq.or call_len_str
/-- int(i), int(b) -/
def intO : Op := fun ds s => match ds with
  | [.int i] => .ok (.int i) s
  | [.bl b] => .ok (.int (if b then 1 else 0)) s
  | _ => .bad
theorem int_ok : OpOk X T W intO (fun xs H Q => (∃ i, xs = [.int i] ∧ Q (.int i) H) ∨ ∃ k, xs = [.bl k] ∧ Q (.int (if k then 1 else 0)) H) := fun σ H G s xs ds Q I r q => by
  unfold intO at q
  split at q
  · obtain ⟨v, rfl, r1⟩ := r.one
    cases r1
    exact .inl ⟨_, rfl, done I q (.int _)⟩
  · obtain ⟨v, rfl, r1⟩ := r.one
    cases r1
    exact .inr ⟨_, rfl, done I q (.int _)⟩
  · exact q.elim
/-- max, min of two -/
def max2O : Op := fun ds s => match ds with
  | [.int i, .int j] => .ok (.int (if j > i then j else i)) s
  | _ => .bad
def min2O : Op := fun ds s => match ds with
  | [.int i, .int j] => .ok (.int (if j < i then j else i)) s
  | _ => .bad
theorem max2_ok : OpOk X T W max2O (fun xs H Q => ∃ i j, xs = [.int i, .int j] ∧ Q (.int (if j > i then j else i)) H) := fun σ H G s xs ds Q I r q => by
  unfold max2O at q
  split at q
  · obtain ⟨v, u, rfl, r1, r2⟩ := r.two
    cases r1
    cases r2
    exact ⟨_, _, rfl, done I q (.int _)⟩
  · exact q.elim
theorem min2_ok : OpOk X T W min2O (fun xs H Q => ∃ i j, xs = [.int i, .int j] ∧ Q (.int (if j < i then j else i)) H) := fun σ H G s xs ds Q I r q => by
  unfold min2O at q
  split at q
  · obtain ⟨v, u, rfl, r1, r2⟩ := r.two
    cases r1
    cases r2
    exact ⟨_, _, rfl, done I q (.int _)⟩
  · exact q.elim
/-- list(x), tuple(x) of a list, a tuple -/
def listO : Op := fun ds s => match ds with
  | [d] => (match seqOf s d with
    | some xs => .ok (.lst xs) s
    | none => .bad)
  | _ => .bad
theorem list_ok : OpOk X T W listO (fun xs H Q => ∃ p ys, xs = [.ref p] ∧ (SqL X.K H p ys ∨ SqT X.K H p ys) ∧ ∀ l, H l = none → Q (.ref l) (upd H l (.lst ys))) := fun σ H G s xs ds Q I r q => by
  unfold listO at q
  split at q
  · obtain ⟨v, rfl, r1⟩ := r.one
    rename_i d
    cases e : seqOf s d with
    | none => rw [e] at q; exact q.elim
    | some ys =>
      rw [e] at q
      obtain ⟨a, vs, rfl, h2, h3⟩ := seqOf_ok I r1 e
      exact ⟨a, vs, rfl, h2, fun l hl => done_new I q hl fun k => .lst (.inr rfl) upd_same (h3.kp k)⟩
  · exact q.elim
def tupleO : Op := fun ds s => match ds with
  | [.tup xs] => .ok (.tup xs) s
  | [.scr xs] => .ok (.tup (xs.map D.int)) s
  | [d] => (match coList (content s d) with
    | some xs => .ok (.tup xs) s
    | none => .bad)
  | _ => .bad
theorem tuple_ok : OpOk X T W tupleO (fun xs H Q => ∃ p ys, xs = [.ref p] ∧ ((SqL X.K H p ys ∧ ∀ l, H l = none → Q (.ref l) (upd H l (.tup ys))) ∨ (SqT X.K H p ys ∧ Q (.ref p) H))) := fun σ H G s xs ds Q I r q => by
  unfold tupleO at q
  split at q
  · obtain ⟨v, rfl, r1⟩ := r.one
    cases r1 with
    | tup h1 h2 => exact ⟨_, _, rfl, .inr ⟨h1, done I q (.tup h1 h2)⟩⟩
  · obtain ⟨v, rfl, r1⟩ := r.one
    cases r1 with
    | scr h => exact ⟨_, _, rfl, .inl ⟨h.sq, fun l hl => done_new I q hl fun k => .tup (.inl (.inl upd_same)) (RepL.ints _)⟩⟩
  · rename_i d _ _
    obtain ⟨v, rfl, r1⟩ := r.one
    cases e : content s d with
    | none => rw [e] at q; exact q.elim
    | some c =>
      rw [e] at q
      cases c with
      | L ys =>
        obtain ⟨a, vs, rfl, h2, h3⟩ := content_L I r1 e
        exact ⟨a, vs, rfl, .inl ⟨.inl (.inl h2), fun l hl => done_new I q hl fun k => .tup (.inl (.inl upd_same)) (h3.kp k)⟩⟩
      | M _ => exact q.elim
      | I _ _ => exact q.elim
      | K _ => exact q.elim
  · exact q.elim
/-- all, any of a list of truths -/
def allO : Op := fun ds s => match ds with
  | [d] => (match (coList (content s d)).bind blsOf with
    | some bs => .ok (.bl (bs.all id)) s
    | none => .bad)
  | _ => .bad
def anyO : Op := fun ds s => match ds with
  | [d] => (match (coList (content s d)).bind blsOf with
    | some bs => .ok (.bl (bs.any id)) s
    | none => .bad)
  | _ => .bad
theorem bls_at {w : World} {K : PySem.W.Frag} {σ : Sg} {H : Hp} {G : Wd} {s : S} {v : V} {d : D} {bs : List Bool} (I : StR w K T σ H G s) (r : RepT w K σ H G s v d) (e : (coList (content s d)).bind blsOf = some bs) : ∃ a, v = .ref a ∧ SqL K H a (bs.map V.bl) := by
  cases q : content s d with
  | none => rw [q] at e; cases e
  | some c =>
    rw [q] at e
    cases c with
    | L ys =>
      obtain ⟨a, vs, rfl, h2, h3⟩ := content_L I r q
      have h4 := RepL.vals_bl h3 (blsOf_ok e)
      subst h4
      exact ⟨a, rfl, .inl (.inl h2)⟩
    | M _ => cases e
    | I _ _ => cases e
    | K _ => cases e
theorem all_ok : OpOk X T W allO (rAll X.K) := fun σ H G s xs ds Q I r q => by
  unfold allO at q
  split at q
  · obtain ⟨v, rfl, r1⟩ := r.one
    split at q
    · rename_i bs e
      obtain ⟨a, rfl, h⟩ := bls_at I r1 e
      exact ⟨a, bs, rfl, h, done I q (.bl _)⟩
    · exact q.elim
  · exact q.elim
theorem any_ok : OpOk X T W anyO (rAny X.K) := fun σ H G s xs ds Q I r q => by
  unfold anyO at q
  split at q
  · obtain ⟨v, rfl, r1⟩ := r.one
    split at q
    · rename_i bs e
      obtain ⟨a, rfl, h⟩ := bls_at I r1 e
      exact ⟨a, bs, rfl, h, done I q (.bl _)⟩
    · exact q.elim
  · exact q.elim
end
end G

set_option Elab.async false
set_option linter.all false
set_option maxRecDepth 100000
set_option maxHeartbeats 4000000
namespace G
open PySem PySem.Spec PyProof.Rows L2

/-! ### isinstance -/
inductive Ty where
  | non | bl | int | str | lst | tup | dct | ins (c : Nat)
def coTy : Co → Option Ty
  | .L _ => some .lst
  | .M _ => some .dct
  | .I c _ => some (.ins c)
  | .K _ => none
def tyOf (s : S) : D → Option Ty
  | .non => some .non
  | .bl _ => some .bl
  | .int _ => some .int
  | .str _ => some .str
  | .tup _ => some .tup
  | .scr _ => none
  | d => (content s d).bind coTy
def tyVal (T : Tb) : Ty → Value
  | .non => .type "NoneType"
  | .bl => .type "bool"
  | .int => .type "int"
  | .str => .type "str"
  | .lst => .type "list"
  | .tup => .type "tuple"
  | .dct => .type "dict"
  | .ins c => .ref (T.cls c)
inductive TyG (K : PySem.W.Frag) (H : Hp) : V → Value → Prop
  | x {v : V} {t : Value} : TyX K H v t → TyG K H v t
  | dct {a : Addr} {es : DE} : H a = some (dictHO a es) → TyG K H (.ref a) (.type "dict")
/-- what isinstance asks of the classes -/
structure Ki (K : PySem.W.Frag) (T : Tb) : Prop where
  kl : Kl K T
  hn : PySem.W.specialIn K (.builtin "object.__class__") "__get__" = some (some (.builtin "getset_descriptor.__get__"))
  htk : PySem.W.takesIn K (.builtin "object.__class__") = some true
  ha : ∀ c, c < T.nc → PySem.W.findIn K (.ref (T.cls c)) "__class__" = some (some (.builtin "object.__class__"))
  hm : ∀ c, c < T.nc → PySem.W.mroIn K (T.cls c) (.type "object") = some true
theorem tyOf_ok {w : World} {K : PySem.W.Frag} {T : Tb} {σ : Sg} {H : Hp} {G : Wd} {s : S} {v : V} {d : D} {t : Ty} (ki : Ki K T) (I : StR w K T σ H G s) (r : RepT w K σ H G s v d) (e : tyOf s d = some t) : TyG K H v (tyVal T t) := by
  have cont : (content s d).bind coTy = some t → TyG K H v (tyVal T t) := fun e => by
    obtain ⟨c, h1, h2⟩ := Option.bind_eq_some_iff.mp e
    cases c with
    | L xs =>
      obtain ⟨a, vs, rfl, h3, _⟩ := content_L I r h1
      cases h2
      exact .x (.base (.lst h3))
    | M kvs =>
      obtain ⟨a, es, rfl, h3, _⟩ := content_M I r h1
      cases h2
      exact .dct h3
    | K kvs => cases h2
    | I c fs =>
      have : insOf s d = some (c, fs) ∨ ∃ i, d = .own i := by
        cases d with
        | cel n => exact .inl (by simp only [insOf]; rw [unK_I h1])
        | own i => exact .inr ⟨i, rfl⟩
        | _ => cases h1
      cases h2
      rcases this with h | ⟨i, rfl⟩
      · obtain ⟨n, dx, gs, rfl, hn, rfl, hc, h3, h4, h5⟩ := insOf_ok I r h
        exact .x (.base (.ins h3 (ki.kl.cls c hc) (ki.ha c hc) ki.hn ki.htk (ki.hm c hc)))
      · obtain ⟨hv, x, hx⟩ := r
        simp only [content, hx] at h1
        cases x with
        | emp => cases h1
        | own c' =>
          cases h1
          obtain ⟨a, ha, ⟨hc, dx, gs, h3, h4⟩, _⟩ := I.own i _ hx
          rw [hv] at ha; cases ha
          exact .x (.base (.ins h3 (ki.kl.cls c hc) (ki.ha c hc) ki.hn ki.htk (ki.hm c hc)))
        | val d' => cases d' <;> cases h1
  cases d with
  | non => cases r; cases e; exact .x (.base .non)
  | bl b => cases r; cases e; exact .x (.base (.bl b))
  | int i => cases r; cases e; exact .x (.base (.int i))
  | str x => cases r; cases e; exact .x (.base (.str _))
  | tup xs =>
    cases e
    cases r with
    | tup q r =>
      rcases q with (q | ⟨o, q⟩) | ⟨o, its, n, hk, hc, _⟩
      · exact .x (.base (.tup q))
      · exact .x (.fTuple q)
      · exact .x (.kTuple hk hc)
  | scr xs => cases e
  | _ => exact cont e
theorem kit_ofG {X : Cx} {pins : List (Addr × Obj)} {σ : Sg} {H : Hp} {s : Shared} {x : V} {u t : Value} (I : Inv X pins σ H s) (rx : RelV x u) (ty : TyG X.K H x t) : ∃ P : Heap → Prop, PySem.W.KitX X.K u t P ∧ P s.heap ∧ u ≠ .builtin "__main__.__loader__#opaque" := by
  cases ty with
  | x ty => exact kit_of I rx ty
  | @dct a es e =>
    cases (show u = Value.ref a from rx)
    obtain ⟨⟨_, _, o, h1, h2, _⟩, _⟩ := I.hok a _ e
    exact ⟨_, PySem.W.kitx_dict, ⟨o, h1, h2.1⟩, fun z => nomatch z⟩
def rIsiG (K : PySem.W.Frag) : List V → Hp → VK → Prop := fun xs H Q => ∃ (x c : V) (t u : Value) (b : Bool), xs = [x, c] ∧ ClsV c u ∧ TyG K H x t ∧ PySem.W.kitOne K t u = some b ∧ Q (.bl b) H
section
variable {X : Cx} {T : Tb} {W : Wi} {pos p : Pos}
theorem cr_isiG : CallR X (.builtin "isinstance") (rIsiG X.K) := by
  intro pins st σ H xs us Q I r h
  obtain ⟨x, c, t, u, b, rfl, k, ty, e, q⟩ := h
  obtain ⟨y1, y2, rfl, r1, r2⟩ := vals2 r
  have ey := k.eq r2
  subst ey
  obtain ⟨P, Z, hp, hx⟩ := kit_ofG I r1 ty
  exact PySem.W.kia_one Z I.kIn hp e hx fun tk => ⟨.bl b, H, I.tok tk, rfl, q⟩
def isiE (ans : Ty → Option Bool) (f : Ex) : Ex := fun s => (f s).bind fun d s => match (tyOf s d).bind ans with
  | some b => .ok (.bl b) s
  | none => .bad
theorem sv_isi {e c : Expr} {f : Ex} {cv : V} {u : Value} {ans : Ty → Option Bool} (ki : Ki X.K T) (hcv : ClsV cv u) (hans : ∀ t b, ans t = some b → PySem.W.kitOne X.K (tyVal T t) u = some b) (he : SO X T W e f) (hc : PE X c (tC cv)) (hg : Gl X "isinstance") (hm : X.mg "isinstance" = none)
    (h1 : starEach [e, c] X.env = (false, eval e X.env) :: starEach [c] X.env := by rfl) (h2 : starEach [c] X.env = (false, eval c X.env) :: starEach [] X.env := by rfl) (hpl : (backTo pos (starEach [c] X.env)).any (·.1) = false := by rfl) :
    SV X T W (.Call (.Name "isinstance" p) [e, c] [] pos) (isiE ans f) := by
  refine PE.imp (pe_callB cr_isiG hg hm PyProof.Rows.boot_isinstance (pa_cons he (pa_cons hc pa_nil h2) h1) (by decide) (by decide) h1 hpl) fun σ H Q ⟨G, s, I, q⟩ => ?_
  refine tO_bind I q fun d s1 H1 G1 v b J r q => ?_
  split at q
  · rename_i k hk
    obtain ⟨t, h3, h4⟩ := Option.bind_eq_some_iff.mp hk
    exact ⟨v, cv, _, u, k, rfl, hcv, tyOf_ok ki J r h3, hans t k h4, q _ _ _ b J (.bl k)⟩
  · exact q.elim
/-! ### chains -/
def chainE (op op' : D → D → Ex) (fa fb fc : Ex) : Ex := fun s => (fa s).bind fun x s => (fb s).bind fun y s => (op x y s).bind fun k s => match k with
  | .bl true => (fc s).bind fun z s => op' y z s
  | .bl false => .ok (.bl false) s
  | _ => .bad
theorem chain_run {o o' : CmpOp} {op op' : D → D → Ex} {a b c : Expr} {fa fb fc : Ex} (ho : B2 X T W (compareOp o) op) (ho' : B2 X T W (compareOp o') op') (ha : SO X T W a fa) (hb : SO X T W b fb) (hc : SO X T W c fc)
    {σ : Sg} {H : Hp} {Q : VK} (h : tV X.w X.K T W (chainE op op' fa fb fc) σ H Q) :
    tO X.w X.K T W fa σ H fun x H1 => tO X.w X.K T W fb σ H1 fun y H2 => ∃ G2 s2 d e, StR X.w X.K T σ H2 G2 s2 ∧ RepT X.w X.K σ H2 G2 s2 x d ∧ RepT X.w X.K σ H2 G2 s2 y e ∧ (op d e s2).holds (PV X.w X.K T (fun z H3 => ∃ k, z = .bl k ∧ if k = true then
      tO X.w X.K T W fc σ H3 fun w' H4 => ∃ G4 s4 e d3, StR X.w X.K T σ H4 G4 s4 ∧ RepT X.w X.K σ H4 G4 s4 y e ∧ RepT X.w X.K σ H4 G4 s4 w' d3 ∧ (op' e d3 s4).holds (PV X.w X.K T Q σ H4 G4 s4) (PX X.w X.K T W σ H4 G4 s4) else Q (.bl false) H3) σ H2 G2 s2) (PX X.w X.K T W σ H2 G2 s2) := by
  obtain ⟨G, s, I, q⟩ := h
  refine tO_bind I q fun d s1 H1 G1 x b1 J1 r1 q => ?_
  refine tO_bind J1 (hV b1 q) fun e s2 H2 G2 y b2 J2 r2 q => ?_
  refine ⟨G2, s2, d, e, J2, r1.step J1 b2 J2, r2, ?_⟩
  have q := hV b2 q
  refine rV_bind q fun k s3 H3 G3 v b3 J3 r3 q => ?_
  split at q
  · cases r3
    refine ⟨true, rfl, ?_⟩
    rw [if_pos rfl]
    refine tO_bind J3 (hV b3 q) fun z s4 H4 G4 u b4 J4 r4 q => ?_
    exact ⟨G4, s4, e, z, J4, (r2.step J2 b3 J3).step J3 b4 J4, r4, hV b4 q⟩
  · cases r3
    refine ⟨false, rfl, ?_⟩
    rw [if_neg Bool.false_ne_true]
    exact q _ _ _ b3 J3 (.bl false)
  · exact q.elim
theorem sv_chain {o o' : CmpOp} {op op' : D → D → Ex} {a b c : Expr} {fa fb fc : Ex} (ho : B2 X T W (compareOp o) op) (ho' : B2 X T W (compareOp o') op') (ha : SO X T W a fa) (hb : SO X T W b fb) (hc : SO X T W c fc)
    (hm : lastMarks [o, o'] [b, c] = false := by with_unfolding_all rfl) : SV X T W (.Compare a [o, o'] [b, c] pos) (chainE op op' fa fb fc) := by
  refine ⟨fun pins st σ H Q I h => ?_⟩
  refine Compare_chain (thn (ha.run pins st σ H _ I (chain_run ho ho' ha hb hc h)) fun v t1 ⟨x, H1, I1, r1, q1⟩ => chain_link (thn (hb.run pins t1 σ H1 _ I1 q1) fun u t2 ⟨y, H2, I2, r2, G2, s2, d, e, J2, e1, e2, q2⟩ =>
    thn (ho pins t2 σ H2 x y v u G2 s2 d e _ I2 r1 r2 J2 e1 e2 q2) fun k3 t3 ⟨z, H3, I3, r3, k, ek, q3⟩ => ?_)) hm
  subst ek
  cases r3
  refine wpAny_truthy_bool ?_
  cases k with
  | false => rw [if_neg Bool.false_ne_true] at q3; exact ite_ff ⟨.bl false, H3, I3, rfl, q3⟩
  | true =>
    rw [if_pos rfl] at q3
    exact ite_tt (chain_last (thn (hc.run pins t3 σ H3 _ I3 q3) fun w' t4 ⟨z', H4, I4, r4, G4, s4, e', d', J4, e3, e4, q4⟩ => ho' pins t4 σ H4 y z' u w' G4 s4 e' d' Q I4 r2 r4 J4 e3 e4 q4))
theorem chain_truths {op op' : D → D → Ex} (ht' : Truths op') (fa fb fc : Ex) : ∀ s d s', chainE op op' fa fb fc s = .ok d s' → ∃ c, d = .bl c := by
  intro s d s' e
  unfold chainE at e
  cases e1 : fa s with
  | ok d1 s1 =>
    rw [e1] at e
    simp only [R.bind] at e
    cases e2 : fb s1 with
    | ok d2 s2 =>
      rw [e2] at e
      simp only [R.bind] at e
      cases e3 : op d1 d2 s2 with
      | ok k s3 =>
        rw [e3] at e
        simp only [R.bind] at e
        split at e
        · cases e4 : fc s3 with
          | ok d4 s4 => rw [e4] at e; exact ht' _ _ _ _ _ e
          | exc c d s => rw [e4] at e; cases e
          | bad => rw [e4] at e; cases e
        · cases e; exact ⟨_, rfl⟩
        · cases e
      | exc c d s => rw [e3] at e; cases e
      | bad => rw [e3] at e; cases e
    | exc c d s => rw [e2] at e; cases e
    | bad => rw [e2] at e; cases e
  | exc c d s => rw [e1] at e; cases e
  | bad => rw [e1] at e; cases e
theorem st_chain {o o' : CmpOp} {op op' : D → D → Ex} {a b c : Expr} {fa fb fc : Ex} (ho : B2 X T W (compareOp o) op) (ho' : B2 X T W (compareOp o') op') (ht' : Truths op') (ha : SO X T W a fa) (hb : SO X T W b fb) (hc : SO X T W c fc)
    (hm : lastMarks [o, o'] [b, c] = false := by with_unfolding_all rfl) : ST X T W (.Compare a [o, o'] [b, c] pos) (truT (chainE op op' fa fb fc)) := by
  refine ⟨fun pins st σ H Q I hw => ?_⟩
  have h := truT_tV (chain_truths ht' fa fb fc) hw
  refine isTrue_chain (thn (ha.run pins st σ H _ I (chain_run ho ho' ha hb hc h)) fun v t1 ⟨x, H1, I1, r1, q1⟩ => test_link (thn (hb.run pins t1 σ H1 _ I1 q1) fun u t2 ⟨y, H2, I2, r2, G2, s2, d, e, J2, e1, e2, q2⟩ =>
    thn (ho pins t2 σ H2 x y v u G2 s2 d e _ I2 r1 r2 J2 e1 e2 q2) fun k3 t3 ⟨z, H3, I3, r3, k, ek, q3⟩ => ?_)) hm
  subst ek
  cases r3
  refine wpAny_truthy_bool ?_
  cases k with
  | false =>
    rw [if_neg Bool.false_ne_true] at q3
    obtain ⟨k', e', q'⟩ := q3
    cases e'
    exact ite_ff ⟨H3, I3, q'⟩
  | true =>
    rw [if_pos rfl] at q3
    refine ite_tt (test_last (thn (hc.run pins t3 σ H3 _ I3 q3) fun w' t4 ⟨z', H4, I4, r4, G4, s4, e', d', J4, e3, e4, q4⟩ => thn (ho' pins t4 σ H4 y z' u w' G4 s4 e' d' _ I4 r2 r4 J4 e3 e4 q4) fun k5 t5 ⟨z5, H5, I5, r5, k6, e6, q6⟩ => ?_))
    subst e6
    cases r5
    exact wpAny_truthy_bool ⟨H5, I5, q6⟩
end
end G

set_option Elab.async false
set_option linter.all false
set_option maxRecDepth 100000
set_option maxHeartbeats 4000000
/-! G, dicts: keys are whole numbers and texts, or tuples of any depth -/
namespace G
open PySem PySem.Spec PyProof.Rows L2

def getD (k : D) : List (D × D) → Option D
  | [] => none
  | (j, d) :: r => if beqD j k = true then some d else getD k r
def putD (k d : D) : List (D × D) → List (D × D)
  | [] => [(k, d)]
  | (j, e) :: r => if beqD j k = true then (j, d) :: r else (j, e) :: putD k d r
def dropD (k : D) : List (D × D) → List (D × D)
  | [] => []
  | (j, e) :: r => if beqD j k = true then r else (j, e) :: dropD k r
mutual
def kdep : D → Nat
  | .tup xs => kdeps xs + 1
  | _ => 0
def kdeps : List D → Nat
  | [] => 0
  | x :: xs => max (kdep x) (kdeps xs)
end
mutual
theorem kdep_eq : ∀ d : D, (nk d).depth = kdep d
  | .tup xs => by simp only [nk, NestedKey.depth, kdep, kdeps_eq xs]
  | .non => rfl
  | .bl _ => rfl
  | .int _ => rfl
  | .str _ => rfl
  | .lst _ => rfl
  | .dct _ => rfl
  | .cel _ => rfl
  | .own _ => rfl
  | .scr _ => rfl
theorem kdeps_eq : ∀ xs : List D, NestedKey.depthAll (nks xs) = kdeps xs
  | [] => rfl
  | x :: xs => by simp only [nks, NestedKey.depthAll, kdeps, kdep_eq x, kdeps_eq xs]
end
/-- a tuple that may be a key -/
def keyT : D → Bool
  | .tup xs => areKeys xs && Nat.ble (kdeps xs) 7
  | _ => false
def keyA : D → Bool
  | .int _ => true
  | .str _ => true
  | _ => false
def tupKs : List (D × D) → Bool
  | [] => true
  | (k, _) :: r => keyT k && tupKs r
def atKs : List (D × D) → Bool
  | [] => true
  | (k, _) :: r => keyA k && atKs r
def dctOk (kvs : List (D × D)) (k : D) : Bool := (keyT k && tupKs kvs) || (keyA k && atKs kvs)
theorem keyT_ok {k : D} (h : keyT k = true) : isKey k = true ∧ (nk k).depth ≤ 8 ∧ ∃ xs, k = .tup xs := by
  cases k with
  | tup xs =>
    simp only [keyT, Bool.and_eq_true, Nat.ble_eq] at h
    refine ⟨h.1, ?_, xs, rfl⟩
    rw [kdep_eq]
    simp only [kdep]
    omega
  | _ => cases h
theorem getD_none_mem {k : D} : ∀ {kvs : List (D × D)}, getD k kvs = none → k ∉ kvs.map (·.1)
  | [], _ => by simp
  | (j, e) :: r, h => by
    unfold getD at h
    split at h
    · cases h
    · rename_i hj
      rw [List.map_cons, List.mem_cons]
      rintro (z | z)
      · subst z; exact hj (beqD_self k)
      · exact getD_none_mem h z
theorem putD_new {k d : D} : ∀ {kvs : List (D × D)}, getD k kvs = none → putD k d kvs = kvs ++ [(k, d)]
  | [], _ => rfl
  | (j, e) :: r, h => by
    unfold getD at h
    split at h
    · cases h
    · rename_i hj
      unfold putD
      rw [if_neg hj, putD_new h]
      rfl
theorem putD_len (k d : D) : ∀ kvs : List (D × D), (putD k d kvs).length ≤ kvs.length + 1
  | [] => Nat.le_refl _
  | (j, e) :: r => by
    unfold putD
    split
    · simp
    · have := putD_len k d r
      simp only [List.length_cons]
      omega
theorem putD_mem {k d : D} {x : D × D} : ∀ {kvs : List (D × D)}, x ∈ putD k d kvs → x ∈ kvs ∨ x.1 = k
  | [], h => by
    simp only [putD, List.mem_singleton] at h
    rw [h]
    exact .inr rfl
  | (j, e) :: r, h => by
    unfold putD at h
    split at h
    · rename_i hj
      rcases List.mem_cons.mp h with h | h
      · rw [h]; exact .inr (eq_of_beqD _ _ hj)
      · exact .inl (List.mem_cons_of_mem _ h)
    · rcases List.mem_cons.mp h with h | h
      · rw [h]; exact .inl List.mem_cons_self
      · rcases putD_mem h with h | h
        · exact .inl (List.mem_cons_of_mem _ h)
        · exact .inr h
theorem putD_nodup {k d : D} : ∀ {kvs : List (D × D)}, (kvs.map (·.1)).Nodup → ((putD k d kvs).map (·.1)).Nodup
  | [], _ => by simp [putD]
  | (j, e) :: r, h => by
    rw [List.map_cons, List.nodup_cons] at h
    unfold putD
    split
    · rw [List.map_cons, List.nodup_cons]
      exact h
    · rename_i hj
      rw [List.map_cons, List.nodup_cons]
      refine ⟨fun z => ?_, putD_nodup h.2⟩
      obtain ⟨x, h1, h2⟩ := List.mem_map.mp z
      rcases putD_mem h1 with h3 | h3
      · exact h.1 (List.mem_map.mpr ⟨x, h3, h2⟩)
      · have e : j = k := by rw [← h3]; exact h2.symm
        subst e
        exact hj (beqD_self _)
theorem dropD_mem {k : D} {x : D × D} : ∀ {kvs : List (D × D)}, x ∈ dropD k kvs → x ∈ kvs
  | [], h => h
  | (j, e) :: r, h => by
    unfold dropD at h
    split at h
    · exact List.mem_cons_of_mem _ h
    · rcases List.mem_cons.mp h with h | h
      · rw [h]; exact List.mem_cons_self
      · exact List.mem_cons_of_mem _ (dropD_mem h)
theorem dropD_len (k : D) : ∀ kvs : List (D × D), (dropD k kvs).length ≤ kvs.length
  | [] => Nat.le_refl _
  | (j, e) :: r => by
    unfold dropD
    split
    · simp
    · have := dropD_len k r
      simp only [List.length_cons]
      omega
theorem dropD_nodup {k : D} : ∀ {kvs : List (D × D)}, (kvs.map (·.1)).Nodup → ((dropD k kvs).map (·.1)).Nodup
  | [], h => h
  | (j, e) :: r, h => by
    rw [List.map_cons, List.nodup_cons] at h
    unfold dropD
    split
    · exact h.2
    · rw [List.map_cons, List.nodup_cons]
      refine ⟨fun z => ?_, dropD_nodup h.2⟩
      obtain ⟨x, h1, h2⟩ := List.mem_map.mp z
      exact h.1 (List.mem_map.mpr ⟨x, dropD_mem h1, h2⟩)

section
variable {w : World} {K : PySem.W.Frag} {H : Hp} {G : Wd}
/-- a dict of tuples, as the kit tells it -/
inductive TP (w : World) (K : PySem.W.Frag) (H : Hp) (G : Wd) : List (D × D) → List (NestedKey × Addr × Value) → Prop
  | nil : TP w K H G [] []
  | cons {k d : D} {a : Addr} {x : Value} {v : V} {kvs : List (D × D)} {xs : List (NestedKey × Addr × Value)} : keyT k = true → Rep w K H G (.ref a) k → RelV v x → Rep w K H G v d → TP w K H G kvs xs → TP w K H G ((k, d) :: kvs) ((nk k, a, x) :: xs)
theorem TP.of {P : Program} : ∀ {es : List DictEntry} {kvs : List (D × D)}, RepE w K H G es kvs → tupKs kvs = true → ∃ xs, TP w K H G kvs xs ∧ es = xs.map (entryOfKey (nestedKind P w))
  | _, _, .nil, _ => ⟨[], .nil, rfl⟩
  | _, _, .cons (e := e) (k := k) (d := d) (u := u) (v := v) a b c hh f g r, h => by
    simp only [tupKs, Bool.and_eq_true] at h
    obtain ⟨xs, h1, h2⟩ := TP.of (P := P) r h.2
    obtain ⟨_, _, ys, rfl⟩ := keyT_ok h.1
    cases c with
    | @tup p vs _ c1 c2 =>
      have ek : e.key = .ref p := b
      refine ⟨(nk (.tup ys), p, e.val) :: xs, .cons h.1 (.tup c1 c2) f g h1, ?_⟩
      rw [List.map_cons, h2]
      congr 1
      obtain ⟨eh, ekey, ev⟩ := e
      simp only at ek hh
      subst ek hh
      rfl
theorem TP.back {P : Program} : ∀ {kvs : List (D × D)} {xs : List (NestedKey × Addr × Value)}, TP w K H G kvs xs → RepE w K H G (xs.map (entryOfKey (nestedKind P w))) kvs
  | _, _, .nil => .nil
  | _, _, .cons a b c d r => .cons (u := .ref _) (keyT_ok a).1 rfl b rfl c d (TP.back r)
theorem TP.keys : ∀ {kvs : List (D × D)} {xs : List (NestedKey × Addr × Value)}, TP w K H G kvs xs → xs.map (·.1) = kvs.map (fun p => nk p.1)
  | _, _, .nil => rfl
  | _, _, .cons _ _ _ _ r => by simp [TP.keys r]
theorem TP.isK : ∀ {kvs : List (D × D)} {xs : List (NestedKey × Addr × Value)}, TP w K H G kvs xs → ∀ p ∈ kvs, keyT p.1 = true
  | _, _, .nil => by simp
  | _, _, .cons a _ _ _ r => by
    intro p hp
    rcases List.mem_cons.mp hp with rfl | hp
    · exact a
    · exact r.isK p hp
theorem TP.nodup {kvs : List (D × D)} {xs : List (NestedKey × Addr × Value)} (t : TP w K H G kvs xs) (h : (kvs.map (·.1)).Nodup) : (xs.map (·.1)).Nodup := by
  rw [t.keys]
  unfold List.Nodup at h ⊢
  rw [List.pairwise_map] at h ⊢
  exact List.Pairwise.imp_of_mem (fun {a b} ha hb ne e => ne (nk_inj _ _ (keyT_ok (t.isK a ha)).1 (keyT_ok (t.isK b hb)).1 e)) h
theorem TP.len : ∀ {kvs : List (D × D)} {xs : List (NestedKey × Addr × Value)}, TP w K H G kvs xs → xs.length = kvs.length
  | _, _, .nil => rfl
  | _, _, .cons _ _ _ _ r => by simp [TP.len r]
theorem nk_ne {j k : D} (hj : keyT j = true) (hk : keyT k = true) (h : ¬ beqD j k = true) : nk j ≠ nk k := fun e => h (by rw [nk_inj j k (keyT_ok hj).1 (keyT_ok hk).1 e]; exact beqD_self k)
theorem TP.find {k : D} (hk : keyT k = true) : ∀ {kvs : List (D × D)} {xs : List (NestedKey × Addr × Value)}, TP w K H G kvs xs → match getD k kvs with
    | some d => ∃ a x v, atKey xs (nk k) = some (a, x) ∧ RelV v x ∧ Rep w K H G v d
    | none => atKey xs (nk k) = none
  | _, _, .nil => rfl
  | _, _, .cons (k := j) (d := d) (a := a) (x := x) (v := v) (xs := xs) h1 h2 h3 h4 r => by
    unfold getD
    by_cases e : beqD j k = true
    · rw [if_pos e]
      have e' := eq_of_beqD _ _ e
      subst e'
      exact ⟨a, x, v, by simp [atKey], h3, h4⟩
    · rw [if_neg e]
      have ne := nk_ne h1 hk e
      have z : atKey ((nk j, a, x) :: xs) (nk k) = atKey xs (nk k) := by simp [atKey, List.find?_cons, ne]
      rw [z]
      exact TP.find hk r
theorem TP.put {k d : D} {p : Addr} {x : Value} {v : V} (hk : keyT k = true) (rk : Rep w K H G (.ref p) k) (rv : RelV v x) (rd : Rep w K H G v d) {kvs : List (D × D)} {xs : List (NestedKey × Addr × Value)} (t : TP w K H G kvs xs) (hn : (xs.map (·.1)).Nodup) : TP w K H G (putD k d kvs) (storedH xs (nk k) p x) := by
  cases g : getD k kvs with
  | none =>
    have f := TP.find hk t
    rw [g] at f
    rw [putD_new g, storedH_new f]
    clear g f hn
    induction t with
    | nil => exact .cons hk rk rv rd .nil
    | cons a b c e r ih => exact .cons a b c e ih
  | some d0 =>
    have f := TP.find hk t
    rw [g] at f
    obtain ⟨a0, x0, v0, f, _⟩ := f
    rw [storedH_old f]
    clear f
    induction t with
    | nil => cases g
    | @cons j e a y u kvs xs h1 h2 h3 h4 r ih =>
      rw [List.map_cons, List.nodup_cons] at hn
      unfold getD at g
      unfold putD
      by_cases q : beqD j k = true
      · rw [if_pos q]
        have q' := eq_of_beqD _ _ q
        subst q'
        rw [List.map_cons, map_putAt_of_not_mem xs _ _ hn.1]
        show TP w K H G _ ((if nk j = nk j then (nk j, a, x) else _) :: xs)
        rw [if_pos rfl]
        exact .cons h1 h2 rv rd r
      · rw [if_neg q] at g ⊢
        rw [List.map_cons]
        show TP w K H G _ ((if nk j = nk k then (nk j, a, x) else (nk j, a, y)) :: _)
        rw [if_neg (nk_ne h1 hk q)]
        exact .cons h1 h2 h3 h4 (ih hn.2 g)
theorem TP.drop {k : D} (hk : keyT k = true) : ∀ {kvs : List (D × D)} {xs : List (NestedKey × Addr × Value)}, TP w K H G kvs xs → (xs.map (·.1)).Nodup → TP w K H G (dropD k kvs) (withoutH xs (nk k))
  | _, _, .nil, _ => .nil
  | _, _, .cons (k := j) (a := a) (x := y) (xs := xs) h1 h2 h3 h4 r, hn => by
    rw [List.map_cons, List.nodup_cons] at hn
    unfold dropD withoutH
    by_cases q : beqD j k = true
    · rw [if_pos q]
      have q' := eq_of_beqD _ _ q
      subst q'
      rw [List.filter_cons, if_neg (by simp)]
      rw [show xs.filter (fun x => decide (x.1 ≠ nk j)) = withoutH xs (nk j) from rfl, withoutH_of_not_mem _ _ hn.1]
      exact r
    · rw [if_neg q, List.filter_cons, if_pos (by simp only [decide_eq_true_eq]; exact nk_ne h1 hk q)]
      exact .cons h1 h2 h3 h4 (TP.drop hk r hn.2)
/-! atoms -/
def atomK : D → Option Key
  | .int i => some (.inl i)
  | .str x => some (.inr (toStr x))
  | _ => none
inductive AP (w : World) (K : PySem.W.Frag) (H : Hp) (G : Wd) : List (D × D) → List (Key × Value) → Prop
  | nil : AP w K H G [] []
  | cons {k d : D} {c : Key} {x : Value} {v : V} {kvs : List (D × D)} {xs : List (Key × Value)} : atomK k = some c → RelV v x → Rep w K H G v d → AP w K H G kvs xs → AP w K H G ((k, d) :: kvs) ((c, x) :: xs)
theorem atom_inj {j k : D} {c : Key} (h1 : atomK j = some c) (h2 : atomK k = some c) : j = k := by
  cases j <;> cases h1 <;> cases k <;> first | (cases h2; rfl) | (simp only [atomK, Option.some.injEq, Sum.inr.injEq] at h2; rw [toStr_inj h2]) | cases h2
theorem atom_key {k : D} {c : Key} (h : atomK k = some c) : keyA k = true ∧ isKey k = true ∧ (nk k).hash w = keyH w c ∧ ∀ {u : V} {v : Value}, Rep w K H G u k → RelV u v → keyIs c v = true := by
  cases k <;> cases h
  · refine ⟨rfl, rfl, rfl, fun r e => ?_⟩
    cases r
    obtain ⟨t, rfl⟩ := e
    exact keyIs_int _ _
  · refine ⟨rfl, rfl, rfl, fun r e => ?_⟩
    cases r
    obtain ⟨t, rfl⟩ := e
    exact keyIs_str _ _
theorem keyA_atom {k : D} (h : keyA k = true) : ∃ c, atomK k = some c := by
  cases k <;> first | exact ⟨_, rfl⟩ | cases h
theorem atom_back {k : D} {c : Key} {v : Value} (h : atomK k = some c) (e : keyIs c v = true) : ∃ u : V, RelV u v ∧ Rep w K H G u k := by
  cases k <;> cases h
  · rcases keyIs_shape e with ⟨i, t, h1, rfl⟩ | ⟨x, t, h1, rfl⟩
    · cases h1; exact ⟨.int _, ⟨t, rfl⟩, .int _⟩
    · cases h1
  · rcases keyIs_shape e with ⟨i, t, h1, rfl⟩ | ⟨x, t, h1, rfl⟩
    · cases h1
    · cases h1; exact ⟨.str _, ⟨t, rfl⟩, .str _⟩
theorem AP.of {P : Program} : ∀ {es : List DictEntry} {kvs : List (D × D)}, RepE w K H G es kvs → atKs kvs = true → ∃ vs, AP w K H G kvs vs ∧ Pairs (mixKind P w) es vs ∧ ∀ e ∈ es, ∃ k, (mixKind P w).is k e.key = true ∧ e.hash = (mixKind P w).hash k
  | _, _, .nil, _ => ⟨[], .nil, .nil, by simp⟩
  | _, _, .cons (e := e) (k := k) a b c hh f g r, h => by
    simp only [atKs, Bool.and_eq_true] at h
    obtain ⟨vs, h1, h2, h3⟩ := AP.of (P := P) r h.2
    obtain ⟨ck, hc⟩ := keyA_atom h.1
    obtain ⟨_, _, k1, k2⟩ := atom_key (w := w) (K := K) (H := H) (G := G) hc
    have ki := k2 c b
    refine ⟨(ck, e.val) :: vs, .cons hc f g h1, .cons ki rfl h2, fun x hx => ?_⟩
    rcases List.mem_cons.mp hx with rfl | hx
    · exact ⟨ck, ki, by rw [hh]; exact k1⟩
    · exact h3 x hx
theorem AP.back {P : Program} : ∀ {kvs : List (D × D)} {vs : List (Key × Value)} {es : List DictEntry}, AP w K H G kvs vs → Pairs (mixKind P w) es vs → (∀ e ∈ es, ∃ k, (mixKind P w).is k e.key = true ∧ e.hash = (mixKind P w).hash k) → RepE w K H G es kvs
  | _, _, _, .nil, .nil, _ => .nil
  | _, _, _, .cons (c := c) (x := x) a b d r, .cons (e := e) p1 p2 p3, h => by
    obtain ⟨u, u1, u2⟩ := atom_back (w := w) (K := K) (H := H) (G := G) a (show keyIs c e.key = true from p1)
    obtain ⟨_, h2, h3, _⟩ := atom_key (w := w) (K := K) (H := H) (G := G) a
    obtain ⟨k', q1, q2⟩ := h e List.mem_cons_self
    have ek : k' = c := (mixKind P w).inj _ _ _ q1 p1
    subst ek
    have ev : e.val = x := p2
    refine .cons h2 u1 u2 (by rw [h3]; exact q2) (by rw [ev]; exact b) d (AP.back r p3 fun y hy => h y (List.mem_cons_of_mem _ hy))
theorem AP.isK : ∀ {kvs : List (D × D)} {xs : List (Key × Value)}, AP w K H G kvs xs → ∀ p ∈ kvs, ∃ c, atomK p.1 = some c
  | _, _, .nil => by simp
  | _, _, .cons a _ _ r => by
    intro p hp
    rcases List.mem_cons.mp hp with rfl | hp
    · exact ⟨_, a⟩
    · exact r.isK p hp
theorem AP.mem : ∀ {kvs : List (D × D)} {xs : List (Key × Value)} {c : Key}, AP w K H G kvs xs → c ∈ xs.map (·.1) → ∃ k, k ∈ kvs.map (·.1) ∧ atomK k = some c
  | _, _, _, .nil, h => by simp at h
  | _, _, _, .cons (k := k) a _ _ r, h => by
    rw [List.map_cons, List.mem_cons] at h
    rcases h with h | h
    · exact ⟨k, by simp, by rw [h]; exact a⟩
    · obtain ⟨k', h1, h2⟩ := AP.mem r h
      exact ⟨k', by rw [List.map_cons]; exact List.mem_cons_of_mem _ h1, h2⟩
theorem AP.nodup : ∀ {kvs : List (D × D)} {xs : List (Key × Value)}, AP w K H G kvs xs → (kvs.map (·.1)).Nodup → (xs.map (·.1)).Nodup
  | _, _, .nil, _ => by simp
  | _, _, .cons (k := k) a _ _ r, h => by
    rw [List.map_cons, List.nodup_cons] at h ⊢
    refine ⟨fun z => ?_, AP.nodup r h.2⟩
    obtain ⟨k', h1, h2⟩ := AP.mem r z
    exact h.1 (by rw [atom_inj a h2]; exact h1)
theorem AP.len : ∀ {kvs : List (D × D)} {xs : List (Key × Value)}, AP w K H G kvs xs → xs.length = kvs.length
  | _, _, .nil => rfl
  | _, _, .cons _ _ _ r => by simp [AP.len r]
theorem AP.find {k : D} {c : Key} (hk : atomK k = some c) : ∀ {kvs : List (D × D)} {xs : List (Key × Value)}, AP w K H G kvs xs → match getD k kvs with
    | some d => ∃ x v, valueAt xs c = some x ∧ RelV v x ∧ Rep w K H G v d
    | none => valueAt xs c = none
  | _, _, .nil => rfl
  | _, _, .cons (k := j) (c := cj) (x := x) (v := v) (xs := xs) h1 h3 h4 r => by
    unfold getD
    by_cases e : beqD j k = true
    · rw [if_pos e]
      have e' := eq_of_beqD _ _ e
      subst e'
      rw [h1] at hk
      cases hk
      exact ⟨x, v, by simp [valueAt], h3, h4⟩
    · rw [if_neg e]
      have ne : ¬ cj = c := fun z => e (by
        have jk : j = k := atom_inj (c := c) (by rw [h1, z]) hk
        rw [jk]; exact beqD_self k)
      have z : valueAt ((cj, x) :: xs) c = valueAt xs c := by simp [valueAt, List.find?_cons, ne]
      rw [z]
      exact AP.find hk r
theorem valueAt_any {κ : Type} [DecidableEq κ] (k : κ) : ∀ xs : List (κ × Value), (xs.any fun kv => decide (kv.1 = k)) = (valueAt xs k).isSome
  | [] => rfl
  | (j, x) :: r => by
    rw [List.any_cons]
    by_cases e : j = k
    · simp [valueAt, e]
    · have z : valueAt ((j, x) :: r) k = valueAt r k := by simp [valueAt, List.find?_cons, e]
      rw [z, ← valueAt_any k r]
      simp [e]
theorem AP.put {k d : D} {c : Key} {x : Value} {v : V} (hk : atomK k = some c) (rv : RelV v x) (rd : Rep w K H G v d) {kvs : List (D × D)} {xs : List (Key × Value)} (t : AP w K H G kvs xs) (hn : (xs.map (·.1)).Nodup) : AP w K H G (putD k d kvs) (stored xs c x) := by
  unfold stored
  rw [valueAt_any]
  cases g : getD k kvs with
  | none =>
    have f := AP.find hk t
    rw [g] at f
    rw [putD_new g, f, if_neg (by decide)]
    clear g f hn
    induction t with
    | nil => exact .cons hk rv rd .nil
    | cons a c e r ih => exact .cons a c e ih
  | some d0 =>
    have f := AP.find hk t
    rw [g] at f
    obtain ⟨x0, v0, f, _⟩ := f
    rw [f, if_pos (show (some x0).isSome = true from rfl)]
    clear f
    induction t with
    | nil => cases g
    | @cons j e cj y u kvs xs h1 h3 h4 r ih =>
      rw [List.map_cons, List.nodup_cons] at hn
      unfold getD at g
      unfold putD
      by_cases q : beqD j k = true
      · rw [if_pos q]
        have q' := eq_of_beqD _ _ q
        subst q'
        rw [h1] at hk
        cases hk
        rw [List.map_cons, map_store_of_not_mem xs _ _ hn.1, if_pos rfl]
        exact .cons h1 rv rd r
      · rw [if_neg q] at g ⊢
        have ne : ¬ cj = c := fun z => q (by
          have jk : j = k := atom_inj (c := c) (by rw [h1, z]) hk
          rw [jk]; exact beqD_self k)
        rw [List.map_cons, if_neg ne]
        exact .cons h1 h3 h4 (ih hn.2 g)
end
end G

set_option Elab.async false
set_option linter.all false
set_option maxRecDepth 100000
set_option maxHeartbeats 4000000
namespace G
open PySem PySem.Spec PyProof.Rows L2

section
variable {X : Cx} {pins : List (Addr × Obj)} {σ : Sg} {H : Hp} {G : Wd} {st : Shared}
mutual
theorem rep_nested (I : Inv X pins σ H st) : ∀ (k : D) {u : V} {v : Value}, isKey k = true → Rep X.w X.K H G u k → RelV u v → NestedIs st.heap (nk k) v
  | .non, _, _, _, .non, e => by
    cases e; exact .none
  | .int i, _, _, _, .int _, e => by
    obtain ⟨t, rfl⟩ := e; exact .int _ _
  | .str x, _, _, _, .str _, e => by
    obtain ⟨t, rfl⟩ := e; exact .text _ _
  | .tup xs, _, _, h, .tup q r, e => by
    cases e
    obtain ⟨its, rv, ⟨o, h1, h2, n, h3⟩, _⟩ := I.tuple q
    exact .tup h1 h2 h3 (rep_nesteds I xs h r rv)
  | .bl _, _, _, h, _, _ => by cases h
  | .lst _, _, _, h, _, _ => by cases h
  | .dct _, _, _, h, _, _ => by cases h
  | .cel _, _, _, h, _, _ => by cases h
  | .own _, _, _, h, _, _ => by cases h
  | .scr _, _, _, h, _, _ => by cases h
theorem rep_nesteds (I : Inv X pins σ H st) : ∀ (ks : List D) {us : List V} {vs : List Value}, areKeys ks = true → RepL X.w X.K H G us ks → Vals us vs → NestedAll st.heap (nks ks) vs
  | [], _, _, _, .nil, .nil => .nil
  | k :: ks, _, _, h, .cons r rs, .cons e es => by
    simp only [areKeys, Bool.and_eq_true] at h
    exact .cons (rep_nested I k h.1 r e) (rep_nesteds I ks h.2 rs es)
end
theorem keyT_is (I : Inv X pins σ H st) {k : D} {u : V} {v : Value} (h : keyT k = true) (r : Rep X.w X.K H G u k) (e : RelV u v) : ∃ a, u = .ref a ∧ v = .ref a ∧ (nestedKind X.prog X.w).is st.heap (nk k) a := by
  obtain ⟨h1, h2, xs, rfl⟩ := keyT_ok h
  cases r with
  | @tup a vs _ q r =>
    cases e
    exact ⟨a, rfl, rfl, rep_nested I (.tup xs) h1 (.tup q r) rfl, h2⟩
theorem TP.iss (I : Inv X pins σ H st) : ∀ {kvs : List (D × D)} {xs : List (NestedKey × Addr × Value)}, TP X.w X.K H G kvs xs → ∀ x ∈ xs, (nestedKind X.prog X.w).is st.heap x.1 x.2.1
  | _, _, .nil => by simp
  | _, _, .cons a b c d r => by
    intro x hx
    rcases List.mem_cons.mp hx with rfl | hx
    · obtain ⟨p, e1, _, e2⟩ := keyT_is I a b rfl
      cases e1
      exact e2
    · exact TP.iss I r x hx
/-- a dict, as the kit's rules take it -/
theorem dct_split {a : Addr} {es : DE} {kvs : List (D × D)} {k : D} (I : Inv X pins σ H st) (e : H a = some (dictHO a es)) (r : RepE X.w X.K H G es.l kvs) (nd : (kvs.map (·.1)).Nodup) (ok : dctOk kvs k = true) :
    (a == sysModules) = false ∧ kvs.length ≤ sizeLine ∧ ((keyT k = true ∧ ∃ xs, TP X.w X.K H G kvs xs ∧ st.heap.DictOfH (nestedKind X.prog X.w) a xs) ∨
      ∃ c vs, atomK k = some c ∧ AP X.w X.K H G kvs vs ∧ st.heap.DictOf (mixKind X.prog X.w) a vs) := by
  obtain ⟨⟨hl, hs, o, h1, h2, h3⟩, _⟩ := I.hok a _ e
  refine ⟨hs, by rw [← r.length]; exact hl, ?_⟩
  unfold dctOk at ok
  rcases Bool.or_eq_true_iff.mp ok with ok | ok
  · rw [Bool.and_eq_true] at ok
    obtain ⟨xs, t, e2⟩ := TP.of (P := X.prog) r ok.2
    exact .inl ⟨ok.1, xs, t, o, es.l.toArray, es.ep, h1, h2, h3, by simpa using e2, t.iss I, t.nodup nd⟩
  · rw [Bool.and_eq_true] at ok
    obtain ⟨c, hc⟩ := keyA_atom ok.1
    obtain ⟨vs, t, e2, e3⟩ := AP.of (P := X.prog) r ok.2
    exact .inr ⟨c, vs, hc, t, o, es.l.toArray, es.ep, h1, h2, h3, fun x hx => e3 x (by simpa using hx), by simpa using e2, t.nodup nd⟩
theorem dict_okO {H' : Hp} {h' : Heap} {a : Addr} {es : DE} {o : Obj} (hl : es.l.length ≤ sizeLine) (hs : (a == sysModules) = false) (h1 : h'.get? a = some o) (h2 : o.ExactDict) (h3 : o.data = .dict es.l.toArray es.ep) : ObjOk X.prog X.w H' h' a (dictHO a es) :=
  ⟨⟨hl, hs, o, h1, h2, h3⟩, ⟨o, h1⟩, fun _ _ ⟨p1, p2, o', p3, p4⟩ k => ⟨p1, p2, o', k _ p3, p4⟩⟩
/-- a dict's object is written -/
theorem dct_writeT {h' : Heap} {t' : Nat} {a : Addr} {es : DE} {kvs : List (D × D)} {xs : List (NestedKey × Addr × Value)} (I : Inv X pins σ H st) (e : H a = some (dictHO a es)) (t : TP X.w X.K H G kvs xs) (hl : kvs.length ≤ sizeLine) (hsy : (a == sysModules) = false)
    (dd : h'.DictOfH (nestedKind X.prog X.w) a xs) (hs : Heap.SameBut a st.heap h') : ∃ es', Inv X pins σ (upd H a (dictHO a es')) { st with heap := h', toks := t' } ∧ RepE X.w X.K H G es'.l kvs := by
  obtain ⟨o, es2, ep, h1, h2, h3, h4, _⟩ := dd
  refine ⟨⟨es2.toList, ep⟩, ?_, by show RepE _ _ _ _ es2.toList kvs; rw [h4]; exact t.back⟩
  refine I.write (x := a) (e := a) (by rw [e]; exact True.intro) (.inl rfl) (fun b q hb z => (hs.2 b hb).trans z) ⟨o, h1⟩ (dict_okO ?_ hsy h1 h2 (by simpa using h3))
  show es2.toList.length ≤ sizeLine
  rw [h4, List.length_map, t.len]
  exact hl
theorem dct_writeA {h' : Heap} {t' : Nat} {a : Addr} {es : DE} {kvs : List (D × D)} {xs : List (Key × Value)} (I : Inv X pins σ H st) (e : H a = some (dictHO a es)) (t : AP X.w X.K H G kvs xs) (hl : kvs.length ≤ sizeLine) (hsy : (a == sysModules) = false)
    (dd : h'.DictOf (mixKind X.prog X.w) a xs) (hs : Heap.SameBut a st.heap h') : ∃ es', Inv X pins σ (upd H a (dictHO a es')) { st with heap := h', toks := t' } ∧ RepE X.w X.K H G es'.l kvs := by
  obtain ⟨o, es2, ep, h1, h2, h3, h4, h5, _⟩ := dd
  refine ⟨⟨es2.toList, ep⟩, ?_, t.back h5 fun x hx => h4 x (by simpa using hx)⟩
  refine I.write (x := a) (e := a) (by rw [e]; exact True.intro) (.inl rfl) (fun b q hb z => (hs.2 b hb).trans z) ⟨o, h1⟩ (dict_okO ?_ hsy h1 h2 (by simpa using h3))
  show es2.toList.length ≤ sizeLine
  rw [h5.length, t.len]
  exact hl
variable {a : Addr} {es : DE} {kvs : List (D × D)} {k d : D} {y v : V} {u r : Value} {A : Around} {E : Value → Shared → Prop}
theorem room_nested (hu : A.units + 9 < cLine) : (nestedKind X.prog X.w).room A.in1 := by
  show A.units + 1 + 8 < cLine
  omega
/-- d[k], there -/
theorem dct_getItem {Q : Value → Shared → Prop} (hu : A.units + 9 < cLine) (I : Inv X pins σ H st) (e : H a = some (dictHO a es)) (re : RepE X.w X.K H G es.l kvs) (nd : (kvs.map (·.1)).Nodup) (ok : dctOk kvs k = true) (rk : Rep X.w X.K H G y k) (ry : RelV y u) (g : getD k kvs = some d)
    (h : ∀ w' v' st', Inv X pins σ H st' → RelV v' w' → Rep X.w X.K H G v' d → Q w' st') : wpAny (model X.prog X.w) A (getItem (.ref a) u) Q E st := by
  obtain ⟨hs, hl, ⟨hk, xs, t, dd⟩ | ⟨c, vs, hc, t, dd⟩⟩ := dct_split I e re nd ok
  · obtain ⟨p, rfl, rfl, hi⟩ := keyT_is I hk rk ry
    have f := TP.find hk t
    rw [g] at f
    obtain ⟨b, x, v', f1, f2, f3⟩ := f
    exact wpAny_getItem_heap (room_nested hu) hi dd f1 (h _ _ _ (I.tok _) f2 f3)
  · have f := AP.find hc t
    rw [g] at f
    obtain ⟨x, v', f1, f2, f3⟩ := f
    exact wpAny_getItem_of ((atom_key (w := X.w) (K := X.K) (H := H) (G := G) hc).2.2.2 rk ry) dd.mapOf f1 (h _ _ _ (I.tok _) f2 f3)
theorem find_some (hk : keyT k = true) {xs : List (NestedKey × Addr × Value)} (t : TP X.w X.K H G kvs xs) : (atKey xs (nk k)).isSome = (getD k kvs).isSome := by
  have f := TP.find hk t
  cases g : getD k kvs with
  | none => rw [g] at f; rw [f]; rfl
  | some d => rw [g] at f; obtain ⟨a, x, v, f, _⟩ := f; rw [f]; rfl
theorem find_someA {c : Key} (hc : atomK k = some c) {xs : List (Key × Value)} (t : AP X.w X.K H G kvs xs) : (valueAt xs c).isSome = (getD k kvs).isSome := by
  have f := AP.find hc t
  cases g : getD k kvs with
  | none => rw [g] at f; rw [f]; rfl
  | some d => rw [g] at f; obtain ⟨x, v, f, _⟩ := f; rw [f]; rfl
/-- k in d -/
theorem dct_in {Q : Value → Shared → Prop} (hu : A.units + 9 < cLine) (I : Inv X pins σ H st) (e : H a = some (dictHO a es)) (re : RepE X.w X.K H G es.l kvs) (nd : (kvs.map (·.1)).Nodup) (ok : dctOk kvs k = true) (rk : Rep X.w X.K H G y k) (ry : RelV y u)
    (h : ∀ st', Inv X pins σ H st' → Q (.bool (getD k kvs).isSome) st') : wpAny (model X.prog X.w) A (compareOp .In u (.ref a)) Q E st := by
  obtain ⟨hs, hl, ⟨hk, xs, t, dd⟩ | ⟨c, vs, hc, t, dd⟩⟩ := dct_split I e re nd ok
  · obtain ⟨p, rfl, rfl, hi⟩ := keyT_is I hk rk ry
    exact wpAny_in_heap (room_nested hu) hi hs dd (by rw [find_some hk t]; exact h _ (I.tok _))
  · exact wpAny_in_of ((atom_key (w := X.w) (K := X.K) (H := H) (G := G) hc).2.2.2 rk ry) hs dd.mapOf (by rw [find_someA hc t]; exact h _ (I.tok _))
theorem dct_notIn {Q : Value → Shared → Prop} (hu : A.units + 9 < cLine) (I : Inv X pins σ H st) (e : H a = some (dictHO a es)) (re : RepE X.w X.K H G es.l kvs) (nd : (kvs.map (·.1)).Nodup) (ok : dctOk kvs k = true) (rk : Rep X.w X.K H G y k) (ry : RelV y u)
    (h : ∀ st', Inv X pins σ H st' → Q (.bool (!(getD k kvs).isSome)) st') : wpAny (model X.prog X.w) A (compareOp .NotIn u (.ref a)) Q E st := by
  obtain ⟨hs, hl, ⟨hk, xs, t, dd⟩ | ⟨c, vs, hc, t, dd⟩⟩ := dct_split I e re nd ok
  · obtain ⟨p, rfl, rfl, hi⟩ := keyT_is I hk rk ry
    exact wpAny_notIn_heap (room_nested hu) hi hs dd (by rw [find_some hk t]; exact h _ (I.tok _))
  · exact wpAny_notIn_of ((atom_key (w := X.w) (K := X.K) (H := H) (G := G) hc).2.2.2 rk ry) hs dd.mapOf (by rw [find_someA hc t]; exact h _ (I.tok _))
/-- d.get(k), d.get(k, z) -/
theorem dct_get1 {Q : Value → Shared → Prop} (hu : A.units + 9 < cLine) (I : Inv X pins σ H st) (e : H a = some (dictHO a es)) (re : RepE X.w X.K H G es.l kvs) (nd : (kvs.map (·.1)).Nodup) (ok : dctOk kvs k = true) (rk : Rep X.w X.K H G y k) (ry : RelV y u)
    (h : ∀ w' v' st', Inv X pins σ H st' → RelV v' w' → Rep X.w X.K H G v' ((getD k kvs).getD .non) → Q w' st') : wpAny (model X.prog X.w) A (call (.builtin "dict.get") [.ref a, u]) Q E st := by
  obtain ⟨hs, hl, ⟨hk, xs, t, dd⟩ | ⟨c, vs, hc, t, dd⟩⟩ := dct_split I e re nd ok
  · obtain ⟨p, rfl, rfl, hi⟩ := keyT_is I hk rk ry
    refine call_meetsIn PySem.F.slot_dict_get dd.typeIs PySem.F.entry_dict_get (PySem.F.args_dict_get_2 _ _) (meetsH_dict_get (nestedKind X.prog X.w) a p hs) ⟨room_nested hu, nk k, xs, hi, dd, ?_⟩
    have f := TP.find hk t
    cases g : getD k kvs with
    | none =>
      rw [g] at f h
      rw [f]
      exact h _ .non _ (I.tok _) rfl .non
    | some d =>
      rw [g] at f h
      obtain ⟨b, x, v', f1, f2, f3⟩ := f
      rw [f1]
      exact h _ _ _ (I.tok _) f2 f3
  · refine call_meetsIn PySem.F.slot_dict_get dd.typeIs PySem.F.entry_dict_get (PySem.F.args_dict_get_2 _ _) (meets_dict_get (mixKind X.prog X.w) a ((atom_key (w := X.w) (K := X.K) (H := H) (G := G) hc).2.2.2 rk ry) hs) ⟨_, dd.mapOf, ?_⟩
    have f := AP.find hc t
    cases g : getD k kvs with
    | none =>
      rw [g] at f h
      rw [f]
      exact h _ .non _ (I.tok _) rfl .non
    | some d =>
      rw [g] at f h
      obtain ⟨x, v', f1, f2, f3⟩ := f
      rw [f1]
      exact h _ _ _ (I.tok _) f2 f3
theorem dct_get2 {z : D} {vz : V} {uz : Value} {Q : Value → Shared → Prop} (hu : A.units + 9 < cLine) (I : Inv X pins σ H st) (e : H a = some (dictHO a es)) (re : RepE X.w X.K H G es.l kvs) (nd : (kvs.map (·.1)).Nodup) (ok : dctOk kvs k = true) (rk : Rep X.w X.K H G y k) (ry : RelV y u)
    (rz : Rep X.w X.K H G vz z) (ru : RelV vz uz) (h : ∀ w' v' st', Inv X pins σ H st' → RelV v' w' → Rep X.w X.K H G v' ((getD k kvs).getD z) → Q w' st') : wpAny (model X.prog X.w) A (call (.builtin "dict.get") [.ref a, u, uz]) Q E st := by
  obtain ⟨hs, hl, ⟨hk, xs, t, dd⟩ | ⟨c, vs, hc, t, dd⟩⟩ := dct_split I e re nd ok
  · obtain ⟨p, rfl, rfl, hi⟩ := keyT_is I hk rk ry
    refine call_meetsIn PySem.F.slot_dict_get dd.typeIs PySem.F.entry_dict_get (PySem.F.args_dict_get_3 _ _ _) (meetsH_dict_get_default (nestedKind X.prog X.w) a p hs uz) ⟨room_nested hu, nk k, xs, hi, dd, ?_⟩
    have f := TP.find hk t
    cases g : getD k kvs with
    | none =>
      rw [g] at f h
      rw [f]
      exact h _ vz _ (I.tok _) ru rz
    | some d =>
      rw [g] at f h
      obtain ⟨b, x, v', f1, f2, f3⟩ := f
      rw [f1]
      exact h _ _ _ (I.tok _) f2 f3
  · refine call_meetsIn PySem.F.slot_dict_get dd.typeIs PySem.F.entry_dict_get (PySem.F.args_dict_get_3 _ _ _) (meets_dict_get_default (mixKind X.prog X.w) a ((atom_key (w := X.w) (K := X.K) (H := H) (G := G) hc).2.2.2 rk ry) hs uz) ⟨_, dd.mapOf, ?_⟩
    have f := AP.find hc t
    cases g : getD k kvs with
    | none =>
      rw [g] at f h
      rw [f]
      exact h _ vz _ (I.tok _) ru rz
    | some d =>
      rw [g] at f h
      obtain ⟨x, v', f1, f2, f3⟩ := f
      rw [f1]
      exact h _ _ _ (I.tok _) f2 f3
/-- d[k] = v -/
theorem dct_setItem {Q : Unit → Shared → Prop} (hu : A.units + 9 < cLine) (I : Inv X pins σ H st) (e : H a = some (dictHO a es)) (re : RepE X.w X.K H G es.l kvs) (nd : (kvs.map (·.1)).Nodup) (ok : dctOk kvs k = true) (hz : (putD k d kvs).length ≤ sizeLine) (rk : Rep X.w X.K H G y k) (ry : RelV y u) (rd : Rep X.w X.K H G v d) (rv : RelV v r)
    (h : ∀ es' st', Inv X pins σ (upd H a (dictHO a es')) st' → RepE X.w X.K H G es'.l (putD k d kvs) → Q () st') : wpAny (model X.prog X.w) A (setItem (.ref a) u r) Q E st := by
  obtain ⟨hs, hl, ⟨hk, xs, t, dd⟩ | ⟨c, vs, hc, t, dd⟩⟩ := dct_split I e re nd ok
  · obtain ⟨p, rfl, rfl, hi⟩ := keyT_is I hk rk ry
    refine wpAny_setItem_heap (hsz := by rw [t.len]; exact hl) (room_nested hu) hi dd fun h' dd' hs' => ?_
    obtain ⟨es', I', r'⟩ := dct_writeT (t' := st.toks + (nestedKind X.prog X.w).draws (nk k)) I e (t.put hk rk rv rd (t.nodup nd)) hz hs dd' hs'
    exact h _ _ I' r'
  · refine wpAny_setItem_pairs (hsz := by rw [t.len]; exact hl) ((atom_key (w := X.w) (K := X.K) (H := H) (G := G) hc).2.2.2 rk ry) dd fun h' dd' hs' => ?_
    obtain ⟨es', I', r'⟩ := dct_writeA (t' := st.toks + 1) I e (t.put hc rv rd (t.nodup nd)) hz hs dd' hs'
    exact h _ _ I' r'
/-- the same for a display, a comprehension -/
theorem dct_dictSet {Q : Unit → Shared → Prop} (hu : A.units + 9 < cLine) (I : Inv X pins σ H st) (e : H a = some (dictHO a es)) (re : RepE X.w X.K H G es.l kvs) (nd : (kvs.map (·.1)).Nodup) (ok : dctOk kvs k = true) (hz : (putD k d kvs).length ≤ sizeLine) (rk : Rep X.w X.K H G y k) (ry : RelV y u) (rd : Rep X.w X.K H G v d) (rv : RelV v r)
    (h : ∀ es' st', Inv X pins σ (upd H a (dictHO a es')) st' → RepE X.w X.K H G es'.l (putD k d kvs) → Q () st') : wpAny (model X.prog X.w) A (dictSet a u r) Q E st := by
  obtain ⟨hs, hl, ⟨hk, xs, t, dd⟩ | ⟨c, vs, hc, t, dd⟩⟩ := dct_split I e re nd ok
  · obtain ⟨p, rfl, rfl, hi⟩ := keyT_is I hk rk ry
    refine wpAny_dictSet_heap (hsz := by rw [t.len]; exact hl) (show (nestedKind X.prog X.w).room A from (by show A.units + 8 < cLine; omega)) hi dd fun h' dd' hs' => ?_
    obtain ⟨es', I', r'⟩ := dct_writeT (t' := st.toks + (nestedKind X.prog X.w).draws (nk k)) I e (t.put hk rk rv rd (t.nodup nd)) hz hs dd' hs'
    exact h _ _ I' r'
  · refine wpAny_dictSet_pairs (hsz := by rw [t.len]; exact hl) ((atom_key (w := X.w) (K := X.K) (H := H) (G := G) hc).2.2.2 rk ry) dd fun h' dd' hs' => ?_
    obtain ⟨es', I', r'⟩ := dct_writeA (t' := st.toks + 1) I e (t.put hc rv rd (t.nodup nd)) hz hs dd' hs'
    exact h _ _ I' r'
theorem dct_raw (I : Inv X pins σ H st) (e : H a = some (dictHO a es)) : (a == sysModules) = false ∧ es.l.length ≤ sizeLine ∧ st.heap.DictRaw a es.l.toArray es.ep := by
  obtain ⟨⟨hl, hs, o, h1, h2, h3⟩, _⟩ := I.hok a _ e
  exact ⟨hs, hl, o, h1, h2, h3⟩
end
end G

set_option Elab.async false
set_option linter.all false
set_option maxRecDepth 100000
set_option maxHeartbeats 4000000
namespace G
open PySem PySem.Spec PyProof.Rows L2

section
variable {X : Cx} {T : Tb} {W : Wi} {pos p : Pos}
/-! ### in, not in -/
def inB (s : S) (d e : D) : Option Bool := match e with
  | .str z => (match d with
    | .str [c] => some (z.contains c)
    | _ => none)
  | .tup xs => if dat 59 (view s d) && xs.all (dat 59) then some (xs.any fun z => pyEq z (view s d)) else none
  | e => match content s e with
    | some (.L xs) => if dat 59 (view s d) && xs.all (dat 59) then some (xs.any fun z => pyEq z (view s d)) else none
    | some (.M kvs) => if dctOk kvs d then some (getD d kvs).isSome else none
    | _ => none
def inD : D → D → Ex := fun d e s => truR s (inB s d e)
def niD : D → D → Ex := fun d e s => truR s ((inB s d e).map not)
theorem truths_in : Truths inD := truths_truR
theorem truths_ni : Truths niD := truths_truR (f := fun s d e => (inB s d e).map not)
theorem dctOk_rep {w : World} {K : PySem.W.Frag} {σ : Sg} {H : Hp} {G : Wd} {s : S} {kvs : List (D × D)} {k : D} {v : V} (ok : dctOk kvs k = true) (r : RepT w K σ H G s v k) : Rep w K H G v k := by
  cases k with
  | own i => simp [dctOk, keyT, keyA] at ok
  | _ => exact r
theorem any_eqv {n : Nat} {d : D} (hd : dat n d = true) : ∀ {xs : List D}, xs.all (dat n) = true → ((pys xs).any fun z => PyData.eqv z (py d)) = xs.any fun z => pyEq z d
  | [], _ => rfl
  | x :: xs, h => by
    rw [List.all_cons, Bool.and_eq_true] at h
    rw [pys, List.any_cons, List.any_cons, any_eqv hd h.2, pyEq_eqv x d n h.1 hd]
theorem dat_up : ∀ (n : Nat) (d : D), dat n d = true → dat (n + 1) d = true
  | 0, .non, _ => rfl
  | 0, .bl _, _ => rfl
  | 0, .int _, _ => rfl
  | 0, .str _, h => h
  | n + 1, .non, _ => rfl
  | n + 1, .bl _, _ => rfl
  | n + 1, .int _, _ => rfl
  | n + 1, .str _, h => h
  | n + 1, .lst xs, h => by
    show xs.all (dat (n + 1)) = true
    have h : xs.all (dat n) = true := h
    rw [List.all_eq_true] at h ⊢
    exact fun x hx => dat_up n x (h x hx)
  | n + 1, .tup xs, h => by
    show xs.all (dat (n + 1)) = true
    have h : xs.all (dat n) = true := h
    rw [List.all_eq_true] at h ⊢
    exact fun x hx => dat_up n x (h x hx)
  | 0, .lst _, h => by cases h
  | 0, .tup _, h => by cases h
  | 0, .dct _, h => by cases h
  | 0, .cel _, h => by cases h
  | 0, .own _, h => by cases h
  | 0, .scr _, h => by cases h
  | _ + 1, .dct _, h => by cases h
  | _ + 1, .cel _, h => by cases h
  | _ + 1, .own _, h => by cases h
  | _ + 1, .scr _, h => by cases h
/-- the six roads of in, told once for both answers: neg -/
def rInG (X : Cx) (neg : Bool) : R2 := fun x y H Q => ∃ b : Bool, Q (.bl (if neg then !b else b)) H ∧
  ((∃ (c : Nat) (z : Str), x = .str ⟨#[c]⟩ ∧ y = .str z ∧ b = decide (c ∈ z.cps.toList)) ∨
   (∃ d ds, Dp X.K H x d ∧ Dp X.K H y (.list ds) ∧ SeqAt.shaped d = true ∧ SeqAt.shaped (.list ds) = true ∧ b = ds.any fun z => PyData.eqv z d) ∨
   (∃ d ds, Dp X.K H x d ∧ Dp X.K H y (.tuple ds) ∧ SeqAt.shaped d = true ∧ SeqAt.shaped (.tuple ds) = true ∧ b = ds.any fun z => PyData.eqv z d) ∨
   ∃ G a es kvs k, y = .ref a ∧ H a = some (dictHO a es) ∧ RepE X.w X.K H G es.l kvs ∧ (kvs.map (·.1)).Nodup ∧ dctOk kvs k = true ∧ Rep X.w X.K H G x k ∧ b = (getD k kvs).isSome)
theorem op_inG (hu : X.A.units + 65 < cLine) : OpR X (compareOp .In) (rInG X false) := by
  intro pins st σ H x y v u Q I rx ry ⟨b, q, h⟩
  rw [if_neg Bool.false_ne_true] at q
  rcases h with ⟨c, z, h1, h2, rfl⟩ | ⟨d, ds, h1, h2, h3, h4, rfl⟩ | ⟨d, ds, h1, h2, h3, h4, rfl⟩ | ⟨G, a, es, kvs, k, rfl, h1, h2, h3, h4, h5, rfl⟩
  · exact op_in_sign pins st σ H x y v u Q I rx ry ⟨c, z, h1, h2, q⟩
  · exact op_inD hu pins st σ H x y v u Q I rx ry ⟨d, ds, h1, h2, h3, h4, q⟩
  · obtain ⟨as, r1⟩ := Dp.reads I d x v h1 rx
    obtain ⟨bs, r2⟩ := Dp.reads I (.tuple ds) y u h2 ry
    exact SeqAt.in_tuple_reads r2 r1 (SeqAt.canLay_of_shaped h4) (SeqAt.canLay_of_shaped h3) (room_in_shaped h3 hu) ⟨.bl _, H, I, rfl, q⟩
  · cases ry
    exact dct_in (by omega) I h1 h2 h3 h4 h5 rx fun st' I' => ⟨.bl _, H, I', rfl, q⟩
theorem op_niG (hu : X.A.units + 65 < cLine) : OpR X (compareOp .NotIn) (rInG X true) := by
  intro pins st σ H x y v u Q I rx ry ⟨b, q, h⟩
  rw [if_pos rfl] at q
  rcases h with ⟨c, z, h1, h2, rfl⟩ | ⟨d, ds, h1, h2, h3, h4, rfl⟩ | ⟨d, ds, h1, h2, h3, h4, rfl⟩ | ⟨G, a, es, kvs, k, rfl, h1, h2, h3, h4, h5, rfl⟩
  · exact op_notIn_sign pins st σ H x y v u Q I rx ry ⟨c, z, h1, h2, q⟩
  · exact op_notInD hu pins st σ H x y v u Q I rx ry ⟨d, ds, h1, h2, h3, h4, q⟩
  · obtain ⟨as, r1⟩ := Dp.reads I d x v h1 rx
    obtain ⟨bs, r2⟩ := Dp.reads I (.tuple ds) y u h2 ry
    exact SeqAt.notIn_tuple_reads r2 r1 (SeqAt.canLay_of_shaped h4) (SeqAt.canLay_of_shaped h3) (room_in_shaped h3 hu) ⟨.bl _, H, I, rfl, q⟩
  · cases ry
    exact dct_notIn (by omega) I h1 h2 h3 h4 h5 rx fun st' I' => ⟨.bl _, H, I', rfl, q⟩
theorem inB_ok {neg : Bool} {σ : Sg} {H : Hp} {G : Wd} {s : S} {x y : V} {d e : D} {b : Bool} {Q : VK} (J : StR X.w X.K T σ H G s) (r1 : RepT X.w X.K σ H G s x d) (r2 : RepT X.w X.K σ H G s y e) (h : inB s d e = some b) (q : Q (.bl (if neg then !b else b)) H) : rInG X neg x y H Q := by
  have cont : (match content s e with
    | some (.L xs) => if dat 59 (view s d) && xs.all (dat 59) then some (xs.any fun z => pyEq z (view s d)) else none
    | some (.M kvs) => if dctOk kvs d then some (getD d kvs).isSome else none
    | _ => none) = some b → rInG X neg x y H Q := fun h => by
    split at h
    · rename_i xs c
      split at h
      · rename_i hd
        rw [Bool.and_eq_true] at hd
        cases h
        obtain ⟨a, vs, rfl, h1, h2⟩ := content_L J r2 c
        have dx := view_dp J r1 (dat_up 59 _ hd.1)
        have sx := dat_shaped (dat_up 59 _ hd.1)
        have sy : SeqAt.shaped (py (.lst xs)) = true := dat_shaped (d := .lst xs) hd.2
        exact ⟨_, q, .inr (.inl ⟨_, pys xs, dx, .lst (.inl (.inl h1)) (RepL.dp 59 h2 hd.2), sx, sy, (any_eqv hd.1 hd.2).symm⟩)⟩
      · cases h
    · rename_i kvs c
      split at h
      · rename_i ok
        cases h
        obtain ⟨a, es, rfl, h1, h2, h3⟩ := content_M J r2 c
        exact ⟨_, q, .inr (.inr (.inr ⟨G, a, es, kvs, d, rfl, h1, h2, h3, ok, dctOk_rep ok r1, rfl⟩))⟩
      · cases h
    · cases h
  cases e with
  | str z =>
    cases d with
    | str cs =>
      match cs, h with
      | [c], h =>
        cases h
        cases r1
        cases r2
        refine ⟨_, q, .inl ⟨c, toStr z, rfl, rfl, ?_⟩⟩
        rw [List.contains_eq_mem]
        simp only [toStr]
        congr
    | _ => cases h
  | tup xs =>
    simp only [inB] at h
    split at h
    · rename_i hd
      rw [Bool.and_eq_true] at hd
      cases h
      cases r2 with
      | tup h1 h2 =>
        have dx := view_dp J r1 (dat_up 59 _ hd.1)
        have sx := dat_shaped (dat_up 59 _ hd.1)
        have sy : SeqAt.shaped (py (.tup xs)) = true := dat_shaped (d := .tup xs) hd.2
        exact ⟨_, q, .inr (.inr (.inl ⟨_, pys xs, dx, .tup h1 (RepL.dp 59 h2 hd.2), sx, sy, (any_eqv hd.1 hd.2).symm⟩))⟩
    · cases h
  | _ => exact cont h
theorem b2_in (hu : X.A.units + 65 < cLine) : B2 X T W (compareOp .In) inD := by
  refine B2.of (op_inG hu) fun σ H x y G s d e Q J r1 r2 q => ?_
  cases h : inB s d e with
  | none => unfold inD at q; rw [h] at q; exact q.elim
  | some b =>
    unfold inD at q
    rw [h] at q
    exact inB_ok J r1 r2 h (by rw [if_neg Bool.false_ne_true]; exact q _ _ _ Stp.refl J (.bl b))
theorem b2_ni (hu : X.A.units + 65 < cLine) : B2 X T W (compareOp .NotIn) niD := by
  refine B2.of (op_niG hu) fun σ H x y G s d e Q J r1 r2 q => ?_
  cases h : inB s d e with
  | none => unfold niD at q; rw [h] at q; exact q.elim
  | some b =>
    unfold niD at q
    rw [h] at q
    exact inB_ok J r1 r2 h (by rw [if_pos rfl]; exact q _ _ _ Stp.refl J (.bl (!b)))
/-! ### subscripts -/
def ixAt (o : Option (List D)) (e : D) : Ex := fun s => match e with
  | .int i => (match o.bind fun xs => atI xs i with
    | some r => .ok r s
    | none => .bad)
  | _ => .bad
def ixDct (kvs : List (D × D)) (e : D) : Ex := fun s => if dctOk kvs e then (match getD e kvs with
  | some r => .ok r s
  | none => .bad) else .bad
def ixSeq (d e : D) : Ex := fun s => match content s d with
  | some (.M kvs) => ixDct kvs e s
  | _ => ixAt (seqOf s d) e s
def ixStr (x : List Nat) (e : D) : Ex := fun s => match e with
  | .int i => if x.length ≤ line then (match atI x i with
    | some c => .ok (.str [c]) s
    | none => .bad) else .bad
  | _ => .bad
def ixD : D → D → Ex := fun d e => match d with
  | .str x => ixStr x e
  | d => ixSeq d e
def rIxG (X : Cx) : R2 := fun x y H Q => rIx X.K x y H Q ∨ ∃ G a es kvs k d, x = .ref a ∧ H a = some (dictHO a es) ∧ RepE X.w X.K H G es.l kvs ∧ (kvs.map (·.1)).Nodup ∧ dctOk kvs k = true ∧ Rep X.w X.K H G y k ∧ getD k kvs = some d ∧ ∀ v, Rep X.w X.K H G v d → Q v H
theorem ix_G (hu : X.A.units + 65 < cLine) : IxR X (rIxG X) := by
  intro value slice pins st σ H x y v u Q I rx ry q hs
  rcases q with q | ⟨G, a, es, kvs, k, d, rfl, h1, h2, h3, h4, h5, h6, q⟩
  · exact ix_seq value slice pins st σ H x y v u Q I rx ry q hs
  · cases rx
    obtain ⟨_, _, raw⟩ := dct_raw I h1
    exact tail_any raw.typeIs slot_dict_getitem.lookup (dct_getItem (by omega) I h1 h2 h3 h4 h5 ry h6 fun w' v' st' I' r' r2 => ⟨v', H, I', r', q v' r2⟩) hs
theorem ixN_len {α β : Type} {xs : List α} {ys : List β} {i : Int} (h : xs.length = ys.length) : ixN xs.length i = ixN ys.length i := by rw [h]
theorem RepL.atI {w : World} {K : PySem.W.Frag} {H : Hp} {G : Wd} {vs : List V} {ds : List D} {i : Int} {d : D} (r : RepL w K H G vs ds) (h : L2.atI ds i = some d) : ∃ v, L2.atI vs i = some v ∧ Rep w K H G v d := by
  unfold L2.atI at h ⊢
  obtain ⟨j, h1, h2⟩ := Option.bind_eq_some_iff.mp h
  obtain ⟨v, h3, h4⟩ := r.get h2
  exact ⟨v, by rw [r.length, h1]; exact h3, h4⟩
theorem ixD_ok {σ : Sg} {H : Hp} {G : Wd} {s : S} {x y : V} {d e : D} {Q : VK} (J : StR X.w X.K T σ H G s) (r1 : RepT X.w X.K σ H G s x d) (r2 : RepT X.w X.K σ H G s y e) (q : (ixD d e s).holds (PV X.w X.K T Q σ H G s) (PX X.w X.K T W σ H G s)) : rIxG X x y H Q := by
  have at' : (ixAt (seqOf s d) e s).holds (PV X.w X.K T Q σ H G s) (PX X.w X.K T W σ H G s) → rIxG X x y H Q := fun q => by
    cases e with
    | int i =>
      simp only [ixAt] at q
      cases g : (seqOf s d).bind fun xs => L2.atI xs i with
      | none => rw [g] at q; exact q.elim
      | some r =>
        rw [g] at q
        obtain ⟨xs, g1, g2⟩ := Option.bind_eq_some_iff.mp g
        obtain ⟨a, vs, rfl, h1, h2⟩ := seqOf_ok J r1 g1
        obtain ⟨v, h3, h4⟩ := h2.atI g2
        cases r2
        rcases h1 with h1 | h1
        · exact .inl (.inl ⟨a, vs, i, v, rfl, rfl, h1, h3, q _ _ _ Stp.refl J h4⟩)
        · exact .inl (.inr (.inl ⟨a, vs, i, v, rfl, rfl, h1, h3, q _ _ _ Stp.refl J h4⟩))
    | _ => exact q.elim
  have seq : (ixSeq d e s).holds (PV X.w X.K T Q σ H G s) (PX X.w X.K T W σ H G s) → rIxG X x y H Q := fun q => by
    unfold ixSeq at q
    cases c : content s d with
    | none => rw [c] at q; exact at' q
    | some co =>
      rw [c] at q
      cases co with
      | M kvs =>
        simp only [ixDct] at q
        split at q
        · rename_i ok
          cases g : getD e kvs with
          | none => rw [g] at q; exact q.elim
          | some r =>
            rw [g] at q
            obtain ⟨a, es, rfl, h1, h2, h3⟩ := content_M J r1 c
            exact .inr ⟨G, a, es, kvs, e, r, rfl, h1, h2, h3, ok, dctOk_rep ok r2, g, fun v rv => q _ _ _ Stp.refl J rv⟩
        · exact q.elim
      | L _ => exact at' q
      | I _ _ => exact at' q
      | K _ => exact at' q
  cases d with
  | str z =>
    cases e with
    | int i =>
      simp only [ixD, ixStr] at q
      split at q
      · rename_i hl
        cases g : L2.atI z i with
        | none => rw [g] at q; exact q.elim
        | some c =>
          rw [g] at q
          cases r1
          cases r2
          exact .inl (.inr (.inr ⟨toStr z, i, c, rfl, rfl, by rw [length_toStr, line_eq]; exact hl, by simpa [toStr] using g, q _ _ _ Stp.refl J (.str [c])⟩))
      · exact q.elim
    | _ => exact q.elim
  | _ => exact seq q
theorem sv_ix {a b : Expr} {fa fb : Ex} (hu : X.A.units + 65 < cLine) (ha : SO X T W a fa) (hb : SO X T W b fb) (hs : PlainIx b) : SV X T W (.Subscript a b pos) (bin2 ixD fa fb) := by
  refine ⟨fun pins st σ H Q I h => ?_⟩
  obtain ⟨G, s, J, q⟩ := h
  refine Subscript_ (binT ha hb I (R := fun x y H2 => rIxG X x y H2 Q) ?_ fun v u s2 x y H2 I2 rx ry q => ix_G hu a b pins s2 σ H2 x y v u Q I2 rx ry q (hs _ _))
  refine tO_bind J q fun d s1 H1 G1 x b1 J1 r1 q => ?_
  refine tO_bind J1 (hV b1 q) fun e s2 H2 G2 y b2 J2 r2 q => ?_
  exact ixD_ok J2 (r1.step J1 b2 J2) r2 (hV b2 q)
/-! ### slices -/
abbrev Px := S → R (Option Int)
def tP (w : World) (K : PySem.W.Frag) (T : Tb) (W : Wi) (f : Px) : TO := fun σ H Q => ∃ G s, StR w K T σ H G s ∧ (f s).holds (fun o s' => ∀ H' G', Stp σ H G s σ H' G' s' → StR w K T σ H' G' s' → Q o H') (PX w K T W σ H G s)
def SP (X : Cx) (T : Tb) (W : Wi) (e : Option Expr) (f : Px) : Prop   := L2.PO X e (tP X.w X.K T W f)
def noP : Px := fun s => .ok none s
def someP (f : Ex) : Px := fun s => (f s).bind fun d s => match d with
  | .int i => .ok (some i) s
  | _ => .bad
theorem POimp {e : Option Expr} {t t' : TO} (h : L2.PO X e t) (i : ∀ σ H Q, t' σ H Q → t σ H Q) : L2.PO X e t' := ⟨fun pins s σ H Q I q => h.run pins s σ H Q I (i σ H Q q)⟩
theorem sp_none : SP X T W none noP := POimp po_none fun σ H Q ⟨G, s, I, q⟩ => q _ _ Stp.refl I
theorem sp_some {e : Expr} {f : Ex} (h : SO X T W e f) : SP X T W (some e) (someP f) := by
  refine POimp (po_some h) fun σ H Q ⟨G, s, I, q⟩ => ?_
  refine tO_bind I q fun d s1 H1 G1 v b J r q => ?_
  split at q
  · cases r
    exact ⟨_, rfl, q _ _ b J⟩
  · exact q.elim
def cutN {α : Type} (xs : List α) (lo hi : Option Int) : List α := (xs.drop (HT.sIx xs.length 0 lo)).take (HT.sIx xs.length xs.length hi - HT.sIx xs.length 0 lo)
def sliceD (d : D) (lo hi : Option Int) : Ex := fun s => match d with
  | .str x => if x.length ≤ line then .ok (.str (cutN x lo hi)) s else .bad
  | .tup xs => .ok (.tup (cutN xs lo hi)) s
  | d => match (seqOf s d) with
    | some xs => .ok (.lst (cutN xs lo hi)) s
    | none => .bad
def slcE (f : Ex) (flo fhi : Px) : Ex := fun s => (f s).bind fun d s => (flo s).bind fun lo s => (fhi s).bind fun hi s => sliceD d lo hi s
theorem cutN_V {w : World} {K : PySem.W.Frag} {H : Hp} {G : Wd} {vs : List V} {ds : List D} (r : RepL w K H G vs ds) (lo hi : Option Int) : RepL w K H G (cutV vs lo hi) (cutN ds lo hi) := by
  unfold cutV cutN
  rw [r.length]
  exact (r.drop _).take _
theorem cutN_whole {α : Type} (xs : List α) (lo hi : Option Int) (h : HT.sIx xs.length 0 lo = 0 ∧ HT.sIx xs.length xs.length hi = xs.length) : cutN xs lo hi = xs := by
  unfold cutN
  rw [h.1, h.2]
  simp
theorem seqOf_L {w : World} {K : PySem.W.Frag} {σ : Sg} {H : Hp} {G : Wd} {s : S} {v : V} {d : D} {xs : List D} (I : StR w K T σ H G s) (r : RepT w K σ H G s v d) (nt : ∀ ys, d ≠ .tup ys) (e : seqOf s d = some xs) : ∃ a vs, v = .ref a ∧ SqL K H a vs ∧ RepL w K H G vs xs := by
  have cont : coList (content s d) = some xs → ∃ a vs, v = .ref a ∧ SqL K H a vs ∧ RepL w K H G vs xs := fun e => by
    cases q : content s d with
    | none => rw [q] at e; cases e
    | some c =>
      rw [q] at e
      cases c with
      | L ys =>
        cases e
        obtain ⟨a, vs, h1, h2, h3⟩ := content_L I r q
        exact ⟨a, vs, h1, .inl (.inl h2), h3⟩
      | _ => cases e
  cases d with
  | tup ys => exact absurd rfl (nt ys)
  | scr zs =>
    cases e
    cases r with
    | scr h => exact ⟨_, _, rfl, h.sq, RepL.ints zs⟩
  | _ => exact cont e
theorem sv_slice {e : Expr} {lo hi : Option Expr} {f : Ex} {flo fhi : Px} {p2 : Pos} (he : SO X T W e f) (hl : SP X T W lo flo) (hh : SP X T W hi fhi) : SV X T W (.Subscript e (.Slice lo hi none p2) pos) (slcE f flo fhi) := by
  refine PE.imp (pe_slice (SlR.or sl_list (SlR.or sl_tupA sl_str)) he hl hh) fun σ H Q ⟨G, s, I, q⟩ => ?_
  refine tO_bind I q fun d s1 H1 G1 x b1 J1 r1 q => ?_
  refine ⟨G1, s1, J1, ?_⟩
  have q := hV b1 q
  cases e1 : flo s1 with
  | exc c d s => rw [e1] at q; exact q
  | bad => rw [e1] at q; exact q
  | ok lo s2 =>
    rw [e1] at q
    intro H2 G2 b2 J2
    refine ⟨G2, s2, J2, ?_⟩
    have q : ((fhi s2).bind fun hi s => sliceD d lo hi s).holds (PV X.w X.K T Q σ H2 G2 s2) (PX X.w X.K T W σ H2 G2 s2) := hV b2 q
    cases e2 : fhi s2 with
    | exc c d s => rw [e2] at q; exact q
    | bad => rw [e2] at q; exact q
    | ok hi s3 =>
      rw [e2] at q
      intro H3 G3 b3 J3
      have r3 := (r1.step J1 b2 J2).step J2 b3 J3
      have q := hV b3 q
      have seq : (∀ ys, d ≠ .tup ys) → (match (seqOf s3 d) with
        | some xs => R.ok (D.lst (cutN xs lo hi)) s3
        | none => .bad).holds (PV X.w X.K T Q σ H3 G3 s3) (PX X.w X.K T W σ H3 G3 s3) → rSlL X.K x lo hi H3 Q := fun nt q => by
        cases g : seqOf s3 d with
        | none => rw [g] at q; exact q.elim
        | some xs =>
          rw [g] at q
          obtain ⟨a, vs, rfl, h1, h2⟩ := seqOf_L J3 r3 nt g
          exact ⟨a, vs, rfl, h1, fun l hl => done_new J3 q hl fun k => .lst (.inr rfl) upd_same ((cutN_V h2 lo hi).kp k)⟩
      have q : (sliceD d lo hi s3).holds (PV X.w X.K T Q σ H3 G3 s3) (PX X.w X.K T W σ H3 G3 s3) := q
      cases d with
      | str z =>
        simp only [sliceD] at q
        split at q
        · rename_i hl
          cases r3
          refine .inr (.inr ⟨toStr z, rfl, by rw [length_toStr, line_eq]; exact hl, ?_⟩)
          have ec : cutS (toStr z) lo hi = toStr (cutN z lo hi) := by
            unfold cutS cutN
            rw [length_toStr]
            simp [toStr]
          rw [ec]
          exact q _ _ _ Stp.refl J3 (.str _)
        · exact q.elim
      | tup xs =>
        simp only [sliceD] at q
        cases r3 with
        | @tup a vs _ h1 h2 =>
          refine .inr (.inl ⟨a, vs, rfl, h1, fun hw => ?_, fun hw l hl => ?_⟩)
          · rw [h2.length] at hw
            rw [cutN_whole xs lo hi hw] at q
            exact q _ _ _ Stp.refl J3 (.tup h1 h2)
          · exact done_new J3 q hl fun k => .tup (.inl (.inl upd_same)) ((cutN_V h2 lo hi).kp k)
      | non => exact .inl (seq (fun _ z => nomatch z) q)
      | bl b => exact .inl (seq (fun _ z => nomatch z) q)
      | int i => exact .inl (seq (fun _ z => nomatch z) q)
      | lst xs => exact .inl (seq (fun _ z => nomatch z) q)
      | dct xs => exact .inl (seq (fun _ z => nomatch z) q)
      | cel n => exact .inl (seq (fun _ z => nomatch z) q)
      | own n => exact .inl (seq (fun _ z => nomatch z) q)
      | scr xs => exact .inl (seq (fun _ z => nomatch z) q)
end
end G

set_option Elab.async false
set_option linter.all false
set_option maxRecDepth 100000
set_option maxHeartbeats 4000000
/-! G: targets, what is walked, loops -/
namespace G
open PySem PySem.Spec PyProof.Rows L2

abbrev Gx := D → S → R Unit
/-- only the slots of vs are other -/
def Frm (vs : List Nat) (σ σ' : Sg) : Prop := σ'.length = σ.length ∧ ∀ j, j ∉ vs → σ'[j]? = σ[j]?
theorem Frm.refl {vs : List Nat} {σ : Sg} : Frm vs σ σ := ⟨rfl, fun _ _ => rfl⟩
theorem Frm.trans {vs us : List Nat} {σ σ1 σ2 : Sg} (a : Frm vs σ σ1) (b : Frm us σ1 σ2) : Frm (vs ++ us) σ σ2 := ⟨b.1.trans a.1, fun j h => by
  rw [List.mem_append] at h
  rw [b.2 j fun z => h (.inr z), a.2 j fun z => h (.inl z)]⟩
def tG (w : World) (K : PySem.W.Frag) (T : Tb) (us : List Nat) (f : Gx) : TG := fun x σ H k => ∃ G s d, StR w K T σ H G s ∧ Rep w K H G x d ∧ (f d s).holds (fun _ s' => ∀ σ' H' G', Frm us σ σ' → Stp σ H G s σ' H' G' s' → StR w K T σ' H' G' s' → k σ' H') fun _ _ _ => False
def SG (X : Cx) (T : Tb) (us : List Nat) (tg : Expr) (f : Gx) : Prop := PG X tg (tG X.w X.K T us f)
abbrev Gxs := List D → S → R Unit
def tGs (w : World) (K : PySem.W.Frag) (T : Tb) (us : List Nat) (f : Gxs) : TGs := fun xs σ H k => ∃ G s ds, StR w K T σ H G s ∧ RepL w K H G xs ds ∧ (f ds s).holds (fun _ s' => ∀ σ' H' G', Frm us σ σ' → Stp σ H G s σ' H' G' s' → StR w K T σ' H' G' s' → k σ' H') fun _ _ _ => False
def SGs (X : Cx) (T : Tb) (us : List Nat) (tgs : List Expr) (f : Gxs) : Prop := PGs X tgs (tGs X.w X.K T us f)
theorem PG.imp {X : Cx} {tg : Expr} {t t' : TG} (h : PG X tg t) (i : ∀ x σ H Q, t' x σ H Q → t x σ H Q) : PG X tg t' := ⟨fun pins s σ H v u Q I r q => h.run pins s σ H v u Q I r (i v σ H Q q)⟩
theorem PGs.imp {X : Cx} {tg : List Expr} {t t' : TGs} (h : PGs X tg t) (i : ∀ x σ H Q, t' x σ H Q → t x σ H Q) : PGs X tg t' := ⟨fun pins s σ H v u Q I r q => h.run pins s σ H v u Q I r (i v σ H Q q)⟩
section
variable {X : Cx} {T : Tb} {W : Wi} {pos : Pos}
def nameG (i : Nat) : Gx := fun d s => if i < s.env.length then .ok () (putV i (.val d) s) else .bad
theorem sg_name {i : Nat} {x : Str} (hN : X.N.Nodup) (hi : X.N[i]? = some x) (hx : Loc X.env.scope x) (hf : X.fn x = true ∨ X.env.scope.names.lookup x = some .local := by first | exact .inl rfl | exact .inr rfl | assumption) : SG X T [i] (.Name x pos) (nameG i) := by
  refine PG.imp (pg_name hN hi hx hf) fun v σ H k ⟨G, s, d, I, r, q⟩ => ?_
  unfold nameG at q
  split at q
  · rename_i hl
    obtain ⟨J, b⟩ := I.set_val r hl
    exact q _ _ _ ⟨List.length_set, fun j h => List.getElem?_set_ne fun e => h (by rw [e]; exact List.mem_singleton.mpr rfl)⟩ b J
  · exact q.elim
def nilG : Gxs := fun ds s => match ds with
  | [] => .ok () s
  | _ => .bad
def consG (f : Gx) (g : Gxs) : Gxs := fun ds s => match ds with
  | d :: r => (f d s).bind fun _ s => g r s
  | [] => .bad
theorem sgs_nil : SGs X T [] [] nilG := by
  refine PGs.imp pgs_nil fun xs σ H k ⟨G, s, ds, I, r, q⟩ => ?_
  cases r with
  | nil => exact ⟨rfl, q _ _ _ Frm.refl Stp.refl I⟩
  | cons _ _ => exact q.elim
theorem sgs_cons {us ws : List Nat} {e : Expr} {es : List Expr} {f : Gx} {g : Gxs} (h1 : SG X T us e f) (h2 : SGs X T ws es g)
    (hs : (assignEach (e :: es) X.env).map (·.2) = assign e X.env :: (assignEach es X.env).map (·.2) := by rfl) : SGs X T (us ++ ws) (e :: es) (consG f g) := by
  refine PGs.imp (pgs_cons h1 h2 hs) fun xs σ H k ⟨G, s, ds, I, r, q⟩ => ?_
  cases r with
  | nil => exact q.elim
  | @cons v d vs ds r1 r2 =>
    refine ⟨v, vs, rfl, G, s, d, I, r1, ?_⟩
    have q : ((f d s).bind fun _ s => g ds s).holds (fun _ s' => ∀ σ' H' G', Frm (us ++ ws) σ σ' → Stp σ H G s σ' H' G' s' → StR X.w X.K T σ' H' G' s' → k σ' H') fun _ _ _ => False := q
    cases e : f d s with
    | ok u s1 =>
      rw [e] at q
      intro σ1 H1 G1 fr b J
      refine ⟨G1, s1, ds, J, r2.kp (I.kp b), R.holds_mono q (fun _ s' p σ' H' G' fr2 b2 J2 => p _ _ _ (fr.trans fr2) (b.trans b2) J2) fun _ _ _ p => p⟩
    | exc c d s => rw [e] at q; exact q
    | bad => rw [e] at q; exact q
/-- (a, b, ..) = .. -/
def tupG (f : Gxs) : Gx := fun d s => match d with
  | .tup ds => f ds s
  | _ => .bad
theorem sg_tup {us : List Nat} {es : List Expr} {k : Nat} {f : Gxs} {n : Nat} (hc : X.calm = true) (h : SGs X T us es f) (hn : (assignEach es X.env).length = n := by rfl) (hst : (assignEach es X.env).findIdx? (·.1) = none := by rfl) (hlen : ∀ ds s, ds.length ≠ n → f ds s = .bad) : SG X T us (.Tuple es k pos) (tupG f) := by
  refine PG.imp (pg_tup hc h hn hst) fun v σ H k ⟨G, s, d, I, r, q⟩ => ?_
  cases d with
  | tup ds =>
    cases r with
    | @tup a vs _ h1 h2 =>
      have q : (f ds s).holds (fun _ s' => ∀ σ' H' G', Frm us σ σ' → Stp σ H G s σ' H' G' s' → StR X.w X.K T σ' H' G' s' → k σ' H') fun _ _ _ => False := q
      refine ⟨a, vs, rfl, h1, ?_, G, s, ds, I, h2, q⟩
      by_cases hl : ds.length = n
      · rw [h2.length, hl]
      · rw [hlen ds s hl] at q
        exact q.elim
  | _ => exact q.elim
/-- how many targets -/
theorem nilG_len : ∀ ds s, ds.length ≠ 0 → nilG ds s = .bad := fun ds s h => by
  cases ds with
  | nil => exact absurd rfl h
  | cons _ _ => rfl
theorem consG_len {f : Gx} {g : Gxs} {n : Nat} (h : ∀ ds s, ds.length ≠ n → g ds s = .bad) (hf : ∀ d s, (∃ u s', f d s = .ok u s') ∨ f d s = .bad) : ∀ ds s, ds.length ≠ n + 1 → consG f g ds s = .bad := fun ds s hl => by
  cases ds with
  | nil => rfl
  | cons d r =>
    show ((f d s).bind fun _ s => g r s) = .bad
    rcases hf d s with ⟨u, s', e⟩ | e
    · rw [e]
      exact h r s' (fun z => hl (by simp [z]))
    · rw [e]
      rfl
theorem nameG_no {i : Nat} : ∀ d s, (∃ u s', nameG i d s = .ok u s') ∨ nameG i d s = .bad := fun d s => by
  unfold nameG
  split
  · exact .inl ⟨_, _, rfl⟩
  · exact .inr rfl
/-- target = value, any target -/
def asgS (g : Gx) (f : Ex) : Sx := fun s => (f s).bind fun d s => match g d s with
  | .ok _ s => .ok .nx s
  | _ => .bad
theorem ss_asg {us : List Nat} {tg e : Expr} {f : Ex} {g : Gx} (he : SV X T W e f) (hg : SG X T us tg g) (hs : swapsWithSole [tg] e pos.line X.env = pure false := by rfl) (hw : swappedStores [tg] e X.env = pure none := by rfl) (h1 : (assignEach [tg] X.env).map (·.2) = [assign tg X.env] := by rfl) : SS X T W (.Assign [tg] e pos) (asgS g f) := by
  refine PS.imp (ps_asg he hg hs hw h1) fun E σ H ⟨G, s, I, q⟩ => ?_
  refine tV_bind I (hX q) fun d s1 H1 G1 v b J r q => ?_
  refine ⟨G1, s1, d, J, r, ?_⟩
  cases e1 : g d s1 with
  | ok u s2 =>
    rw [e1] at q
    exact fun σ' H' G' _ b2 J2 => q _ _ _ (b.trans b2) J2
  | exc c d s => rw [e1] at q; exact q.elim
  | bad => rw [e1] at q; exact q.elim
/-! ### what is walked -/
/-- the i-th thing: some none: there is none; none: it is not known -/
abbrev Nx := Nat → S → Option (Option D)
def ItOk (w : World) (K : PySem.W.Frag) (T : Tb) (J : It) (nx : Nx) (σ : Sg) (H : Hp) (G : Wd) (s : S) : Prop := ∀ i σ1 H1 G1 s1, Stp σ H G s σ1 H1 G1 s1 → StR w K T σ1 H1 G1 s1 → match nx i s1 with
  | some none => J.stop i H1
  | some (some d) => J.go i H1 ∧ ∀ x H2, J.yld i H1 x H2 → ∃ G2, Stp σ1 H1 G1 s1 σ1 H2 G2 s1 ∧ StR w K T σ1 H2 G2 s1 ∧ Rep w K H2 G2 x d
  | none => True
abbrev Ix := S → R Nx
def tI (w : World) (K : PySem.W.Frag) (T : Tb) (W : Wi) (f : Ix) : TI := fun σ H R => ∃ G s, StR w K T σ H G s ∧ (f s).holds (fun nx s' => ∀ H' G' J, Stp σ H G s σ H' G' s' → StR w K T σ H' G' s' → ItOk w K T J nx σ H' G' s' → R J H') (PX w K T W σ H G s)
def SI (X : Cx) (T : Tb) (W : Wi) (tg iter : Expr) (f : Ix) : Prop := PI X tg iter (tI X.w X.K T W f)
theorem PI.imp {tg e : Expr} {t t' : TI} (h : PI X tg e t) (i : ∀ σ H Q, t' σ H Q → t σ H Q) : PI X tg e t' := ⟨fun pins s σ H Q I q => h.run pins s σ H Q I (i σ H Q q)⟩
/-- things that are known beforehand -/
def fixN (xs : List D) : Nx := fun i _ => some xs[i]?
def celN (n : Nat) : Nx := fun i s => match s.sto[n]? with
  | some (.L xs) => some xs[i]?
  | _ => none
def seqN (d : D) (s : S) : Option Nx := match d with
  | .cel n => some (celN n)
  | .own _ => none
  | d => (seqOf s d).map fixN
/-- list or tuple, by value; or a cell -/
def seqI (f : Ex) : Ix := fun s => (f s).bind fun d s => match d with
  | .cel n => (match s.sto[n]? with
    | some (.L _) => .ok (celN n) s
    | _ => .bad)
  | .lst xs => .ok (fixN xs) s
  | .scr xs => .ok (fixN (xs.map D.int)) s
  | _ => .bad
def tupI (f : Ex) : Ix := fun s => (f s).bind fun d s => match d with
  | .tup xs => .ok (fixN xs) s
  | _ => .bad
def strI (f : Ex) : Ix := fun s => (f s).bind fun d s => match d with
  | .str xs => .ok (fixN (xs.map fun c => .str [c])) s
  | _ => .bad
theorem RepL.at' {w : World} {K : PySem.W.Frag} {H : Hp} {G : Wd} {vs : List V} {ds : List D} (r : RepL w K H G vs ds) (i : Nat) : match ds[i]? with
    | some d => ∃ v, vs[i]? = some v ∧ Rep w K H G v d
    | none => vs.length ≤ i := by
  cases e : ds[i]? with
  | some d => exact r.get e
  | none =>
    rw [List.getElem?_eq_none_iff] at e
    show vs.length ≤ i
    rw [r.length]
    exact e
theorem it_list {w : World} {K : PySem.W.Frag} {a : Addr} {nx : Nx} {σ : Sg} {H : Hp} {G : Wd} {s : S} (h : ∀ i σ1 H1 G1 s1, Stp σ H G s σ1 H1 G1 s1 → StR w K T σ1 H1 G1 s1 → ∀ o, nx i s1 = some o → ∃ ys vs, o = ys[i]? ∧ SqL K H1 a vs ∧ RepL w K H1 G1 vs ys) : ItOk w K T (Itl K a) nx σ H G s := by
  intro i σ1 H1 G1 s1 b J
  cases e : nx i s1 with
  | none => trivial
  | some o =>
    obtain ⟨ys, vs, rfl, h1, h2⟩ := h i σ1 H1 G1 s1 b J o e
    have z := h2.at' i
    cases e2 : ys[i]? with
    | none => rw [e2] at z; exact ⟨vs, h1, z⟩
    | some d =>
      rw [e2] at z
      obtain ⟨v, hv, rv⟩ := z
      refine ⟨⟨vs, v, h1, hv⟩, fun x H2 ⟨e3, y⟩ => ?_⟩
      subst e3
      have : some v = some x := hv.symm.trans (y vs h1)
      cases this
      exact ⟨G1, Stp.refl, J, rv⟩
theorem si_seq {tg e : Expr} {f : Ex} (h : SV X T W e f) : SI X T W tg e (seqI f) := by
  refine PI.imp (pi_list h) fun σ H Q ⟨G, s, I, q⟩ => ?_
  refine tV_bind I q fun d s1 H1 G1 v b J r q => ?_
  cases d with
  | cel n =>
    cases r with
    | cel hn =>
      cases hc : s1.sto[n]? with
      | none => simp only [hc] at q; exact q.elim
      | some c =>
        obtain ⟨c1, _⟩ := J.sto n c hc
        simp only [hc] at q
        cases c with
        | L xs =>
          have q : ∀ H' G' Jt, Stp σ H G s σ H' G' s1 → StR X.w X.K T σ H' G' s1 → ItOk X.w X.K T Jt (celN n) σ H' G' s1 → Q Jt H' := q
          obtain ⟨vs, h1, h2⟩ := c1
          refine ⟨_, rfl, ⟨vs, .inl (.inl h1)⟩, q _ _ _ b J (it_list fun i σ1 H2 G2 s2 b2 J2 o e => ?_)⟩
          unfold celN at e
          split at e
          · rename_i ys hy
            cases e
            obtain ⟨⟨vs, h3, h4⟩, _⟩ := J2.sto n _ hy
            rw [b2.rh n hn] at h3
            exact ⟨ys, vs, rfl, .inl (.inl h3), h4⟩
          · cases e
        | M kvs => exact q.elim
        | I c fs => exact q.elim
        | K _ => exact q.elim
  | lst xs =>
    cases r with
    | @lst a vs _ h1 h2 h3 =>
      have q : ∀ H' G' Jt, Stp σ H G s σ H' G' s1 → StR X.w X.K T σ H' G' s1 → ItOk X.w X.K T Jt (fixN xs) σ H' G' s1 → Q Jt H' := q
      refine ⟨a, rfl, ⟨vs, .inl (.inl h2)⟩, q _ _ _ b J (it_list fun i σ1 H2 G2 s2 b2 J2 o e => ?_)⟩
      cases e
      exact ⟨xs, vs, rfl, .inl (.inl ((J.kp b2).ho a h1 _ h2)), h3.kp (J.kp b2)⟩
  | scr xs =>
    cases r with
    | @scr a _ h =>
      have q : ∀ H' G' Jt, Stp σ H G s σ H' G' s1 → StR X.w X.K T σ H' G' s1 → ItOk X.w X.K T Jt (fixN (xs.map D.int)) σ H' G' s1 → Q Jt H' := q
      refine ⟨a, rfl, ⟨_, h.sq⟩, q _ _ _ b J (it_list fun i σ1 H2 G2 s2 b2 J2 o e => ?_)⟩
      cases e
      have r2 := Rep.kp (w := X.w) (J.kp b2) (.scr h)
      cases r2 with
      | scr h2 => exact ⟨_, _, rfl, h2.sq, RepL.ints xs⟩
  | _ => exact q.elim
theorem si_tup {tg e : Expr} {f : Ex} (h : SV X T W e f) : SI X T W tg e (tupI f) := by
  refine PI.imp (pi_tup h) fun σ H Q ⟨G, s, I, q⟩ => ?_
  refine tV_bind I q fun d s1 H1 G1 v b J r q => ?_
  cases d with
  | tup xs =>
    cases r with
    | @tup a vs _ h1 h2 =>
      have q : ∀ H' G' Jt, Stp σ H G s σ H' G' s1 → StR X.w X.K T σ H' G' s1 → ItOk X.w X.K T Jt (fixN xs) σ H' G' s1 → Q Jt H' := q
      refine ⟨a, rfl, ⟨_, h1⟩, q _ _ _ b J fun i σ1 H2 G2 s2 b2 J2 => ?_⟩
      have h3 : SqT X.K H2 a vs := SqT.kp (J.kp b2).tp h1
      have h4 := h2.kp (J.kp b2)
      have z := h4.at' i
      unfold fixN
      cases e2 : xs[i]? with
      | none => rw [e2] at z; exact ⟨vs, h3, z⟩
      | some d =>
        rw [e2] at z
        obtain ⟨v, hv, rv⟩ := z
        refine ⟨⟨vs, v, h3, hv⟩, fun x H3 ⟨e3, y⟩ => ?_⟩
        subst e3
        have : some v = some x := hv.symm.trans (y vs h3)
        cases this
        exact ⟨G2, Stp.refl, J2, rv⟩
  | _ => exact q.elim
theorem si_str {tg e : Expr} {f : Ex} (h : SV X T W e f) : SI X T W tg e (strI f) := by
  refine PI.imp (pi_str h) fun σ H Q ⟨G, s, I, q⟩ => ?_
  refine tV_bind I q fun d s1 H1 G1 v b J r q => ?_
  cases d with
  | str x =>
    cases r
    have q : ∀ H' G' Jt, Stp σ H G s σ H' G' s1 → StR X.w X.K T σ H' G' s1 → ItOk X.w X.K T Jt (fixN (x.map fun c => .str [c])) σ H' G' s1 → Q Jt H' := q
    refine ⟨_, rfl, q _ _ _ b J fun i σ1 H2 G2 s2 b2 J2 => ?_⟩
    have ez : (toStr x).cps[i]? = x[i]? := by simp [toStr]
    have es : (toStr x).cps.size = x.length := by simp [toStr]
    unfold fixN
    rw [List.getElem?_map]
    cases e2 : x[i]? with
    | none =>
      show (toStr x).cps.size ≤ i
      rw [es]
      exact List.getElem?_eq_none_iff.mp e2
    | some c =>
      refine ⟨show i < (toStr x).cps.size from ?_, fun v H3 ⟨e3, c', y1, y2⟩ => ?_⟩
      · rw [es]; exact (List.getElem?_eq_some_iff.mp e2).1
      · subst e3 y2
        rw [ez, e2] at y1
        cases y1
        exact ⟨G2, Stp.refl, J2, .str [c]⟩
  | _ => exact q.elim
def rngN (lo : Int) (n : Nat) : Nx := fun i _ => some (if i < n then some (.int (lo + i)) else none)
def small62 (i : Int) : Bool := decide (-4611686018427387904 ≤ i) && decide (i < 4611686018427387904)
def rng1I (f : Ex) : Ix := fun s => (f s).bind fun d s => match d with
  | .int j => if small62 j then .ok (rngN 0 j.toNat) s else .bad
  | _ => .bad
def rng2I (f g : Ex) : Ix := fun s => (f s).bind fun d s => (g s).bind fun e s => match d, e with
  | .int i, .int j => if small62 i && small62 j then .ok (rngN i (j - i).toNat) s else .bad
  | _, _ => .bad
theorem small62_ok {i : Int} (h : small62 i = true) : -(2 ^ 62) ≤ i ∧ i < 2 ^ 62 := by
  unfold small62 at h
  rw [Bool.and_eq_true, decide_eq_true_eq, decide_eq_true_eq] at h
  exact h
theorem it_rng {w : World} {K : PySem.W.Frag} {lo : Int} {n : Nat} {σ : Sg} {H : Hp} {G : Wd} {s : S} : ItOk w K T (Itr lo n) (rngN lo n) σ H G s := by
  intro i σ1 H1 G1 s1 b J
  unfold rngN
  by_cases h : i < n
  · rw [if_pos h]
    refine ⟨h, fun x H2 ⟨e3, y⟩ => ?_⟩
    subst e3 y
    exact ⟨G1, Stp.refl, J, .int _⟩
  · rw [if_neg h]
    exact Nat.le_of_not_lt h
theorem si_range1 {a : Expr} {f : Ex} {p : Pos} {tg : Expr} (hg : Gl X "range") (hm : X.mg "range" = none) (ha : SV X T W a f) (h1 : starEach [a] X.env = (false, eval a X.env) :: starEach [] X.env := by rfl) (hs : starEach [a] X.env = [(false, eval a X.env)] := by rfl) : SI X T W tg (.Call (.Name "range" p) [a] [] pos) (rng1I f) := by
  refine PI.imp (pi_range1 hg hm (pa_cons ha pa_nil h1) hs) fun σ H Q ⟨G, s, I, q⟩ => ?_
  refine tV_bind I q fun d s1 H1 G1 v b J r q => ?_
  cases d with
  | int j =>
    simp only at q
    cases r
    split at q
    · rename_i hj
      obtain ⟨k1, k2⟩ := small62_ok hj
      exact ⟨_, rfl, k1, k2, q _ _ _ b J it_rng⟩
    · exact q.elim
  | _ => exact q.elim
theorem si_range2 {a c : Expr} {f g : Ex} {p : Pos} {tg : Expr} (hg : Gl X "range") (hm : X.mg "range" = none) (ha : SV X T W a f) (hc : SV X T W c g) (h1 : starEach [a, c] X.env = (false, eval a X.env) :: starEach [c] X.env := by rfl) (h2 : starEach [c] X.env = (false, eval c X.env) :: starEach [] X.env := by rfl)
    (hs : starEach [a, c] X.env = [(false, eval a X.env), (false, eval c X.env)] := by rfl) (hs2 : starEach [c] X.env = [(false, eval c X.env)] := by rfl) : SI X T W tg (.Call (.Name "range" p) [a, c] [] pos) (rng2I f g) := by
  refine PI.imp (pi_range2 hg hm (pa_cons ha (pa_cons hc pa_nil h2) h1) hs hs2) fun σ H Q ⟨G, s, I, q⟩ => ?_
  refine tV_bind I q fun d s1 H1 G1 v b J r q => ?_
  refine tV_bind J (R.holds_mono q (fun _ _ p => p) fun _ _ _ p => PX.tr b p) fun e s2 H2 G2 u b2 J2 r2 q => ?_
  cases d with
  | int i =>
    cases e with
    | int j =>
      simp only at q
      cases r
      cases r2
      split at q
      · rename_i hj
        rw [Bool.and_eq_true] at hj
        obtain ⟨k1, k2⟩ := small62_ok hj.1
        obtain ⟨k3, k4⟩ := small62_ok hj.2
        exact ⟨_, _, rfl, ⟨k1, k2, k3, k4⟩, q _ _ _ (b.trans b2) J2 it_rng⟩
      · exact q.elim
    | _ => exact q.elim
  | _ => exact q.elim
/-- reversed(a list or tuple, by value) -/
def revN (xs : List D) : Nx := fun i _ => some (if i < xs.length then xs[xs.length - 1 - i]? else none)
def revI (f : Ex) : Ix := fun s => (f s).bind fun d s => match d with
  | .tup xs => .ok (revN xs) s
  | .lst xs => .ok (revN xs) s
  | _ => .bad
theorem si_rev {e : Expr} {f : Ex} {p : Pos} {tg : Expr} (hg : Gl X "reversed") (hm : X.mg "reversed" = none) (h : SV X T W e f) (hs : starEach [e] X.env = (false, eval e X.env) :: starEach [] X.env := by rfl) : SI X T W tg (.Call (.Name "reversed" p) [e] [] pos) (revI f) := by
  refine PI.imp (RT.pi_revA hg hm h hs) fun σ H Q ⟨G, s, I, q⟩ => ?_
  refine tV_bind I q fun d s1 H1 G1 v b J r q => ?_
  cases d with
  | tup xs =>
    cases r with
    | @tup a vs _ h1 h2 =>
      refine ⟨a, vs, rfl, .inr ⟨h1, ?_⟩⟩
      rw [h2.length]
      refine q _ _ _ b J fun i σ1 H2 G2 s2 b2 J2 => ?_
      have h3 : SqT X.K H2 a vs := SqT.kp (J.kp b2).tp h1
      have h4 := h2.kp (J.kp b2)
      unfold revN
      by_cases hi : i < xs.length
      · rw [if_pos hi]
        have z := h4.at' (xs.length - 1 - i)
        have e2 : xs[xs.length - 1 - i]? = some (xs[xs.length - 1 - i]'(by omega)) := List.getElem?_eq_getElem (by omega)
        rw [e2] at z ⊢
        obtain ⟨v, hv, rv⟩ := z
        refine ⟨⟨hi, vs, v, h3, hv⟩, fun x H3 ⟨e3, y⟩ => ?_⟩
        subst e3
        have : some v = some x := hv.symm.trans (y vs h3)
        cases this
        exact ⟨G2, Stp.refl, J2, rv⟩
      · rw [if_neg hi]
        exact Nat.le_of_not_lt hi
  | lst xs =>
    cases r with
    | @lst a vs _ h0 h1 h2 =>
      refine ⟨a, vs, rfl, .inl ⟨.inl (.inl h1), ?_⟩⟩
      rw [h2.length]
      refine q _ _ _ b J fun i σ1 H2 G2 s2 b2 J2 => ?_
      have h3 : SqL X.K H2 a vs := .inl (.inl ((J.kp b2).ho a h0 _ h1))
      have h4 := h2.kp (J.kp b2)
      unfold revN
      by_cases hi : i < xs.length
      · rw [if_pos hi]
        have z := h4.at' (xs.length - 1 - i)
        have e2 : xs[xs.length - 1 - i]? = some (xs[xs.length - 1 - i]'(by omega)) := List.getElem?_eq_getElem (by omega)
        rw [e2] at z ⊢
        obtain ⟨v, hv, rv⟩ := z
        refine ⟨⟨hi, vs, v, h3, hv⟩, fun x H3 ⟨e3, y⟩ => ?_⟩
        subst e3
        have : some v = some x := hv.symm.trans (y vs h3)
        cases this
        exact ⟨G2, Stp.refl, J2, rv⟩
      · rw [if_neg hi]
        exact Nat.le_of_not_lt hi
  | _ => exact q.elim
/-! ### loops -/
def fuel : Nat := 16777216
def forLoop (nx : Nx) (tg : Gx) (body : Sx) : Nat → Nat → Sx
  | 0, _, _ => .bad
  | k + 1, i, s => match nx i s with
    | none => .bad
    | some none => .ok .nx s
    | some (some d) => match tg d s with
      | .ok _ s1 => (body s1).bind fun fl s2 => match fl with
        | .nx => forLoop nx tg body k (i + 1) s2
        | .ct => forLoop nx tg body k (i + 1) s2
        | .bk => .ok .nx s2
        | .rt d => .ok (.rt d) s2
      | _ => .bad
def forS (src : Ix) (tg : Gx) (body : Sx) : Sx := fun s => (src s).bind fun nx s => forLoop nx tg body fuel 0 s
theorem ss_for {us : List Nat} {tg iter : Expr} {body : List Stmt} {src : Ix} {g : Gx} {fb : Sx} (hp : PassesOwn (model X.prog X.w) X.A X.env X.xe) (hc : X.calm = true) (hi : SI X T W tg iter src) (hg : SG X T us tg g) (hb : SSs X T W body fb)
    (hs : ∀ x, foldedSetIterable iter X.env x = pure x := by intro _; rfl) : SS X T W (.For tg iter body [] pos) (forS src g fb) := by
  refine PS.imp (ps_for hp hc hi hg hb hs) fun E σ H ⟨G, s, I, q⟩ => ?_
  refine ⟨G, s, I, ?_⟩
  unfold forS at q
  cases e : src s with
  | exc c d s1 => rw [e] at q; exact ⟨q.1, fun H' G' b J => q.2 σ H' G' b J⟩
  | bad => rw [e] at q; exact q
  | ok nx s1 =>
    rw [e] at q
    have q : (forLoop nx g fb fuel 0 s1).holds (PS9 X.w X.K T E σ H G s) (PXs X.w X.K T W σ H G s) := q
    intro H1 G1 J b I1 ok
    have q := hS b q
    refine ⟨fun i m σ' H' => ∃ G' s', Stp σ H1 G1 s1 σ' H' G' s' ∧ StR X.w X.K T σ' H' G' s' ∧ (forLoop nx g fb m i s').holds (PS9 X.w X.K T E σ H1 G1 s1) (PXs X.w X.K T W σ H1 G1 s1), ⟨fuel, G1, s1, Stp.refl, I1, q⟩, ?_⟩
    rintro i m σ2 H2 ⟨G2, s2, b2, I2, q2⟩
    have o := ok i σ2 H2 G2 s2 b2 I2
    cases m with
    | zero => exact q2.elim
    | succ m =>
      simp only [forLoop] at q2
      cases e2 : nx i s2 with
      | none => rw [e2] at q2; exact q2.elim
      | some d =>
        rw [e2] at q2 o
        cases d with
        | none => exact .inl ⟨o, q2 _ _ _ b2 I2⟩
        | some d =>
          obtain ⟨o1, o2⟩ := o
          refine .inr ⟨o1, fun σ' H' => ∃ G' s', Stp σ H1 G1 s1 σ' H' G' s' ∧ StR X.w X.K T σ' H' G' s' ∧ (forLoop nx g fb m (i + 1) s').holds (PS9 X.w X.K T E σ H1 G1 s1) (PXs X.w X.K T W σ H1 G1 s1), fun σ' H' h => ⟨m, Nat.lt_succ_self _, h⟩, fun x H3 y => ?_⟩
          obtain ⟨G3, b3, I3, r3⟩ := o2 x H3 y
          refine ⟨G3, s2, d, I3, r3, ?_⟩
          simp only at q2
          cases e3 : g d s2 with
          | exc c d s => rw [e3] at q2; exact q2.elim
          | bad => rw [e3] at q2; exact q2.elim
          | ok u s3 =>
            rw [e3] at q2
            intro σ4 H4 G4 _ b4 I4
            refine ⟨G4, s3, I4, ?_⟩
            have bb : Stp σ H1 G1 s1 σ4 H4 G4 s3 := (b2.trans b3).trans b4
            simp only at q2
            cases e5 : fb s3 with
            | exc c d s => rw [e5] at q2; exact PXs.tr bb q2
            | bad => rw [e5] at q2; exact q2
            | ok fl s5 =>
              rw [e5] at q2
              intro σ6 H6 G6 b6 I6
              cases fl with
              | nx => exact ⟨G6, s5, bb.trans b6, I6, q2⟩
              | ct => exact ⟨G6, s5, bb.trans b6, I6, q2⟩
              | bk => exact q2 _ _ _ (bb.trans b6) I6
              | rt d => exact q2 _ _ _ (bb.trans b6) I6
def whileLoop (c : Tx) (body : Sx) : Nat → Sx
  | 0, _ => .bad
  | k + 1, s => (c s).bind fun b s1 => if b then (body s1).bind fun fl s2 => match fl with
      | .nx => whileLoop c body k s2
      | .ct => whileLoop c body k s2
      | .bk => .ok .nx s2
      | .rt d => .ok (.rt d) s2
    else .ok .nx s1
def whileS (c : Tx) (body : Sx) : Sx := whileLoop c body fuel
theorem ss_while {c : Expr} {body : List Stmt} {fc : Tx} {fb : Sx} (hp : PassesOwn (model X.prog X.w) X.A X.env X.xe) (hc : ST X T W c fc) (hb : SSs X T W body fb) : SS X T W (.While c body [] pos) (whileS fc fb) := by
  refine PS.imp (ps_while hp hc hb) fun E σ H ⟨G, s, I, q⟩ => ?_
  refine ⟨fun m σ' H' => ∃ G' s', Stp σ H G s σ' H' G' s' ∧ StR X.w X.K T σ' H' G' s' ∧ (whileLoop fc fb m s').holds (PS9 X.w X.K T E σ H G s) (PXs X.w X.K T W σ H G s), ⟨fuel, G, s, Stp.refl, I, q⟩, ?_⟩
  rintro m σ2 H2 ⟨G2, s2, b2, I2, q2⟩
  refine ⟨G2, s2, I2, ?_⟩
  cases m with
  | zero => exact q2.elim
  | succ m =>
    simp only [whileLoop] at q2
    cases e : fc s2 with
    | exc c d s => rw [e] at q2; exact ⟨q2.1, fun H' G' b J => q2.2 σ2 H' G' (b2.trans b) J⟩
    | bad => rw [e] at q2; exact q2
    | ok k s3 =>
      rw [e] at q2
      intro H3 G3 b3 I3
      have bb : Stp σ H G s σ2 H3 G3 s3 := b2.trans b3
      cases k with
      | false => exact q2 _ _ _ bb I3
      | true =>
        rw [if_pos rfl]
        refine ⟨fun σ' H' => ∃ G' s', Stp σ H G s σ' H' G' s' ∧ StR X.w X.K T σ' H' G' s' ∧ (whileLoop fc fb m s').holds (PS9 X.w X.K T E σ H G s) (PXs X.w X.K T W σ H G s), fun σ' H' h => ⟨m, Nat.lt_succ_self _, h⟩, G3, s3, I3, ?_⟩
        have q2 : ((fb s3).bind fun fl s2 => match fl with
      | .nx => whileLoop fc fb m s2
      | .ct => whileLoop fc fb m s2
      | .bk => .ok .nx s2
      | .rt d => .ok (.rt d) s2).holds (PS9 X.w X.K T E σ H G s) (PXs X.w X.K T W σ H G s) := q2
        cases e5 : fb s3 with
        | exc c d s => rw [e5] at q2; exact PXs.tr bb q2
        | bad => rw [e5] at q2; exact q2
        | ok fl s5 =>
          rw [e5] at q2
          intro σ6 H6 G6 b6 I6
          cases fl with
          | nx => exact ⟨G6, s5, bb.trans b6, I6, q2⟩
          | ct => exact ⟨G6, s5, bb.trans b6, I6, q2⟩
          | bk => exact q2 _ _ _ (bb.trans b6) I6
          | rt d => exact q2 _ _ _ (bb.trans b6) I6
end
end G

set_option Elab.async false
set_option linter.all false
set_option maxRecDepth 100000
set_option maxHeartbeats 4000000
/-! G: comprehensions -/
namespace G
open PySem PySem.Spec PyProof.Rows L2

def wipeE (env : List Slot) : List Nat → List Slot
  | [] => env
  | v :: vs => (wipeE env vs).set v .emp
def wipeS (vs : List Nat) (s : S) : S := { s with env := wipeE s.env vs }
def restE (old env : List Slot) : List Nat → List Slot
  | [] => env
  | v :: vs => match old[v]? with
    | some x => (restE old env vs).set v x
    | none => restE old env vs
def restS (vs : List Nat) (s s' : S) : S := { s' with env := restE s.env s'.env vs }
def notOwn (s : S) (v : Nat) : Bool := match s.env[v]? with
  | some (.own _) => false
  | some _ => true
  | none => false
theorem wipeE_len (env : List Slot) : ∀ vs, (wipeE env vs).length = env.length
  | [] => rfl
  | v :: vs => by unfold wipeE; rw [List.length_set, wipeE_len env vs]
theorem restE_len (old env : List Slot) : ∀ vs, (restE old env vs).length = env.length
  | [] => rfl
  | v :: vs => by
    unfold restE
    split
    · rw [List.length_set, restE_len old env vs]
    · exact restE_len old env vs
theorem wipeE_get {env : List Slot} {j : Nat} {x : Slot} : ∀ {vs : List Nat}, (wipeE env vs)[j]? = some x → x = .emp ∨ (j ∉ vs ∧ env[j]? = some x)
  | [], h => .inr ⟨by simp, h⟩
  | v :: vs, h => by
    unfold wipeE at h
    rcases get_set h with ⟨_, e⟩ | ⟨ne, h⟩
    · exact .inl e
    · rcases wipeE_get h with h | ⟨h1, h2⟩
      · exact .inl h
      · exact .inr ⟨fun z => (List.mem_cons.mp z).elim ne h1, h2⟩
theorem restE_get {old env : List Slot} (hl : old.length = env.length) {j : Nat} {x : Slot} : ∀ {vs : List Nat}, (restE old env vs)[j]? = some x → (j ∈ vs ∧ old[j]? = some x) ∨ (j ∉ vs ∧ env[j]? = some x)
  | [], h => .inr ⟨by simp, h⟩
  | v :: vs, h => by
    unfold restE at h
    cases e : old[v]? with
    | none =>
      rw [e] at h
      have lj : j < (restE old env vs).length := (List.getElem?_eq_some_iff.mp h).1
      rw [restE_len] at lj
      have lv : old.length ≤ v := List.getElem?_eq_none_iff.mp e
      have ne : j ≠ v := by omega
      rcases restE_get hl h with ⟨h1, h2⟩ | ⟨h1, h2⟩
      · exact .inl ⟨List.mem_cons_of_mem _ h1, h2⟩
      · exact .inr ⟨fun z => (List.mem_cons.mp z).elim ne h1, h2⟩
    | some y =>
      rw [e] at h
      rcases get_set h with ⟨e1, e2⟩ | ⟨ne, h⟩
      · subst e1 e2
        exact .inl ⟨List.mem_cons_self, e⟩
      · rcases restE_get hl h with ⟨h1, h2⟩ | ⟨h1, h2⟩
        · exact .inl ⟨List.mem_cons_of_mem _ h1, h2⟩
        · exact .inr ⟨fun z => (List.mem_cons.mp z).elim ne h1, h2⟩
theorem wipe_not {σ : Sg} {j : Nat} : ∀ {vs : List Nat}, j ∉ vs → (wipe σ vs)[j]? = σ[j]?
  | [], _ => rfl
  | v :: vs, h => by
    unfold wipe
    rw [List.getElem?_set_ne fun e => h (by rw [e]; exact List.mem_cons_self)]
    exact wipe_not fun z => h (List.mem_cons_of_mem _ z)
theorem wipe_in {σ : Sg} {j : Nat} : ∀ {vs : List Nat}, j ∈ vs → j < σ.length → (wipe σ vs)[j]? = some none
  | v :: vs, h, hl => by
    unfold wipe
    by_cases e : v = j
    · subst e
      rw [List.getElem?_set_self (by rw [wipe_length]; exact hl)]
    · rw [List.getElem?_set_ne e]
      exact wipe_in ((List.mem_cons.mp h).resolve_left fun z => e z.symm) hl
theorem wipe_eq {σ σ2 : Sg} {vs : List Nat} (f : Frm vs (wipe σ vs) σ2) : wipe σ2 vs = wipe σ vs := by
  have hl : σ2.length = σ.length := by rw [f.1, wipe_length]
  refine List.ext_getElem? fun j => ?_
  by_cases hj : j ∈ vs
  · by_cases l : j < σ.length
    · rw [wipe_in hj l, wipe_in hj (by rw [hl]; exact l)]
    · rw [List.getElem?_eq_none_iff.mpr (by rw [wipe_length, hl]; omega), List.getElem?_eq_none_iff.mpr (by rw [wipe_length]; omega)]
  · rw [wipe_not hj, f.2 j hj]
section
variable {w : World} {K : PySem.W.Frag} {T : Tb} {σ σ2 : Sg} {H H2 H1 : Hp} {G G2 G1 : Wd} {s s2 s1 : S} {vs : List Nat} {a : Addr}
theorem StR.wipe (I : StR w K T σ H G s) : StR w K T (L2.wipe σ vs) H G (wipeS vs s) where
  len := by show (wipeE s.env vs).length = _; rw [wipeE_len, wipe_length]; exact I.len
  val := fun i d h => by
    rcases wipeE_get h with h | ⟨h1, h2⟩
    · cases h
    · rw [wipe_not h1]; exact I.val i d h2
  own := fun i c h => by
    rcases wipeE_get h with h | ⟨h1, h2⟩
    · cases h
    · rw [wipe_not h1]; exact I.own i c h2
  oin := fun i j c c' a h k e1 e2 => by
    rcases wipeE_get h with h | ⟨h1, h2⟩
    · cases h
    · rcases wipeE_get k with k | ⟨k1, k2⟩
      · cases k
      · rw [wipe_not h1] at e1
        rw [wipe_not k1] at e2
        exact I.oin i j c c' a h2 k2 e1 e2
  cnt := I.cnt
  sto := I.sto
  inj := I.inj
  sep := fun i c n h hn => by
    rcases wipeE_get h with h | ⟨h1, h2⟩
    · cases h
    · rw [wipe_not h1]; exact I.sep i c n h2 hn
  frs := I.frs
theorem tch_wipe {b : Addr} (h : Tch (L2.wipe σ vs) G (wipeS vs s) b) : Tch σ G s b := by
  rcases h with h | ⟨i, c, h, e⟩
  · exact .inl h
  · rcases wipeE_get h with h | ⟨h1, h2⟩
    · cases h
    · rw [wipe_not h1] at e
      exact .inr ⟨i, c, h2, e⟩
theorem wrt_wipe {b : Addr} (h : Wrt (L2.wipe σ vs) G (wipeS vs s) b) : Wrt σ G s b := by
  rcases h with h | ⟨i, c, h, e⟩
  · exact .inl h
  · rcases wipeE_get h with h | ⟨h1, h2⟩
    · cases h
    · rw [wipe_not h1] at e
      exact .inr ⟨i, c, h2, e⟩
theorem Stp.wipe : Stp σ H G s (L2.wipe σ vs) H G (wipeS vs s) := ⟨fun _ _ h _ => h, fun _ h => h, fun _ _ => rfl, Nat.le_refl _, fun _ h => .inl h, fun _ h => .inl (tch_wipe h), fun _ h => .inl (wrt_wipe h), fun _ h => h⟩
/-- the block's own names are as they were -/
theorem StR.unwipe (I : StR w K T σ H G s) (no : vs.all (notOwn s) = true) (J : StR w K T σ2 H2 G2 s2) (b : Stp σ H G s σ2 H2 G2 s2) (f : Frm vs σ σ2) : StR w K T σ H2 G2 (restS vs s s2) ∧ (∀ x, Tch σ G2 (restS vs s s2) x → Tch σ2 G2 s2 x) ∧ ∀ x, Wrt σ G2 (restS vs s s2) x → Wrt σ2 G2 s2 x := by
  have hl : s.env.length = s2.env.length := by rw [I.len, J.len, f.1]
  have own : ∀ (j : Nat) (c : Co), (restS vs s s2).env[j]? = some (Slot.own c) → s2.env[j]? = some (Slot.own c) ∧ σ2[j]? = σ[j]? := fun j c h => by
    rcases restE_get hl h with ⟨h1, h2⟩ | ⟨h1, h2⟩
    · have z := List.all_eq_true.mp no j h1
      unfold notOwn at z
      rw [h2] at z
      cases z
    · exact ⟨h2, f.2 j h1⟩
  refine ⟨⟨?_, fun i d h => ?_, fun i c h => ?_, fun i j c c' a h k e1 e2 => ?_, J.cnt, J.sto, J.inj, fun i c n h hn => ?_, J.frs⟩, fun x h => ?_, fun x h => ?_⟩
  · show (restE s.env s2.env vs).length = _
    rw [restE_len, J.len, f.1]
  · rcases restE_get hl h with ⟨h1, h2⟩ | ⟨h1, h2⟩
    · obtain ⟨v, h3, h4⟩ := I.val i d h2
      exact ⟨v, h3, h4.kp (I.kp b)⟩
    · rw [← f.2 i h1]; exact J.val i d h2
  · obtain ⟨h1, h2⟩ := own i c h
    rw [← h2]; exact J.own i c h1
  · obtain ⟨h1, h2⟩ := own i c h
    obtain ⟨k1, k2⟩ := own j c' k
    exact J.oin i j c c' a h1 k1 (by rw [h2]; exact e1) (by rw [k2]; exact e2)
  · obtain ⟨h1, h2⟩ := own i c h
    rw [← h2]; exact J.sep i c n h1 hn
  · rcases h with h | ⟨i, c, h, e⟩
    · exact .inl h
    · obtain ⟨h1, h2⟩ := own i c h
      exact .inr ⟨i, c, h1, by rw [h2]; exact e⟩
  · rcases h with h | ⟨i, c, h, e⟩
    · exact .inl h
    · obtain ⟨h1, h2⟩ := own i c h
      exact .inr ⟨i, c, h1, by rw [h2]; exact e⟩
theorem Stp.unwipe (b : Stp σ H G s σ2 H2 G2 s2) (ht : ∀ x, Tch σ G2 (restS vs s s2) x → Tch σ2 G2 s2 x) (hw : ∀ x, Wrt σ G2 (restS vs s s2) x → Wrt σ2 G2 s2 x) : Stp σ H G s σ H2 G2 (restS vs s s2) := ⟨b.keep, b.fr, b.rh, b.le, b.nf, fun x h => b.tc x (ht x h), fun x h => b.wc x (hw x h), b.dm⟩
/-- a thing that is told by no one is written -/
theorem kp_free {o o0 : HO} (h0 : H a = some o0) (hm : Mut (some o0)) (hF : ¬ G.F a) : Kp H G (upd H a o) G := by
  have ne : ∀ b u, H b = some u → b ≠ a ∨ u = o0 := fun b u h => by
    by_cases e : b = a
    · subst e; rw [h0] at h; cases h; exact .inr rfl
    · exact .inl e
  refine ⟨fun _ h => h, fun b f u h => ?_, fun b vs h => ?_, fun b o u h => ?_, fun _ _ => rfl, Nat.le_refl _⟩
  · rw [upd_ne fun e => hF (by rw [← e]; exact f)]; exact h
  · have nb : b ≠ a := fun e => by
      subst e
      exact not_tup_of_mut (by rw [h0]; exact hm) h
    rcases h with h | ⟨u, h⟩
    · exact .inl (by rw [upd_ne nb]; exact h)
    · exact .inr ⟨u, by rw [upd_ne nb]; exact h⟩
  · have nb : b ≠ a := fun e => by
      subst e
      rw [h0] at h
      cases h
      exact hm
    rw [upd_ne nb]; exact h
theorem StR.free {o o0 : HO} (I : StR w K T σ H G s) (h0 : H a = some o0) (hm : Mut (some o0)) (hF : ¬ G.F a) (hT : ¬ Tch σ G s a) : StR w K T σ (upd H a o) G s := by
  have k := kp_free (o := o) h0 hm hF
  refine ⟨I.len, fun i d h => ?_, fun i c h => ?_, I.oin, I.cnt, fun n c h => ?_, I.inj, I.sep, fun b h => ?_⟩
  · obtain ⟨v, h1, h2⟩ := I.val i d h
    exact ⟨v, h1, h2.kp k⟩
  · obtain ⟨b, h1, h2, h3⟩ := I.own i c h
    have nb : b ≠ a := fun e => hT (.inr ⟨i, c, h, by rw [← e]; exact h1⟩)
    exact ⟨b, h1, h2.kp k (fun u e => by rw [upd_ne nb]; exact e), h3⟩
  · obtain ⟨h1, h2⟩ := I.sto n c h
    have nb : G.rho n ≠ a := fun e => hT (.inl ⟨n, by rw [← I.cnt]; exact (List.getElem?_eq_some_iff.mp h).1, e⟩)
    exact ⟨h1.kp k (fun u e => by rw [upd_ne nb]; exact e), h2⟩
  · obtain ⟨u, h1⟩ := I.frs b h
    exact ⟨u, by rw [upd_ne fun e => hF (by rw [← e]; exact h)]; exact h1⟩
theorem Stp.free {o o0 : HO} (b : Stp σ H1 G1 s1 σ2 H G s) (h1 : H1 a = none) (h0 : H a = some o0) : Stp σ H1 G1 s1 σ2 (upd H a o) G s :=
  ⟨fun x u e n => by rw [upd_ne (ne_of_none e h1)]; exact b.keep x u e n, b.fr, b.rh, b.le, b.nf, b.tc, b.wc, fun x e => by
    by_cases z : x = a
    · subst z; rw [upd_same] at e; cases e
    · rw [upd_ne z] at e; exact b.dm x e⟩
end
section
variable {X : Cx} {T : Tb} {pos : Pos}
def STs (X : Cx) (T : Tb) (W : Wi) (ifs : List Expr) (f : Tx) : Prop := PTs X ifs (tB X.w X.K T W f)
def yesT : Tx := fun s => .ok true s
theorem sts_nil {W : Wi} : STs X T W [] yesT := ⟨fun pins st σ H Q I h => pts_nil.run pins st σ H Q I (by
  obtain ⟨G, s, J, q⟩ := h
  exact q _ _ Stp.refl J)⟩
theorem sts_one {W : Wi} {c : Expr} {f : Tx} (h : ST X T W c f) : STs X T W [c] f := pts_one h
def lcLoop (nx : Nx) (vs : List Nat) (tg : Gx) (test : Tx) (elt : Ex) : Nat → Nat → List D → S → R (List D)
  | 0, _, _, _ => .bad
  | k + 1, i, acc, s => match nx i s with
    | none => .bad
    | some none => .ok acc s
    | some (some d) => if vs.all (notOwn s) then (match tg d (wipeS vs s) with
      | .ok _ s1 => (match test s1 with
        | .ok true s2 => (match elt s2 with
          | .ok y s3 => lcLoop nx vs tg test elt k (i + 1) (y :: acc) (restS vs s s3)
          | _ => .bad)
        | .ok false s2 => lcLoop nx vs tg test elt k (i + 1) acc (restS vs s s2)
        | _ => .bad)
      | _ => .bad) else .bad
def lcF (src : Ix) (vs : List Nat) (tg : Gx) (test : Tx) (elt : Ex) : Fx := fun s => (src s).bind fun nx s => match lcLoop nx vs tg test elt fuel 0 [] s with
  | .ok acc s => .ok (.L acc.reverse) s
  | _ => .bad
theorem fuel_eq : fuel = sizeLine := sizeLine_eq.symm
theorem lc_imp {src : Ix} {us : List Nat} {g : Gx} {ft : Tx} {fe : Ex} {vs : List Nat} (hvs : ∀ i ∈ us, i ∈ vs) {σ : Sg} {H : Hp} {Q : VK} (h : tF X.w X.K T W0 (lcF src vs g ft fe) σ H Q) : tLc (tI X.w X.K T W0 src) (tG X.w X.K T us g) (tB X.w X.K T W0 ft) (tV X.w X.K T W0 fe) vs σ H Q := by
  obtain ⟨G, s, I, q⟩ := h
  refine ⟨G, s, I, ?_⟩
  unfold lcF at q
  cases e0 : src s with
  | exc c d s1 => rw [e0] at q; exact q.1.elim
  | bad => rw [e0] at q; exact q
  | ok nx s1 =>
    rw [e0] at q
    intro H1 G1 It0 b I1 ok p hp
    have q : (match lcLoop nx vs g ft fe fuel 0 [] s1 with
      | .ok acc s => R.ok (Co.L acc.reverse) s
      | _ => .bad).holds (PF X.w X.K T Q σ H1 G1 s1) (PX X.w X.K T W0 σ H1 G1 s1) := hF b q
    have nT : ¬ Tch σ G1 s1 p := fun z => by
      obtain ⟨c, z, _⟩ := I1.tch z
      obtain ⟨o, z⟩ := z.some
      rw [hp] at z; cases z
    have nF : ¬ G1.F p := fun z => by
      obtain ⟨o, z⟩ := I1.frs p z
      rw [hp] at z; cases z
    have b0 : Stp σ H1 G1 s1 σ (upd H1 p (.lst [])) G1 s1 := Stp.fresh0 hp
    have q : (lcLoop nx vs g ft fe fuel 0 [] s1).holds (fun acc s' => PF X.w X.K T Q σ H1 G1 s1 (.L acc.reverse) s') fun _ _ _ => False := by
      cases e1 : lcLoop nx vs g ft fe fuel 0 [] s1 with
      | ok acc s2 => rw [e1] at q; exact q
      | exc c d s2 => rw [e1] at q; exact q
      | bad => rw [e1] at q; exact q
    refine ⟨fun i m H' => ∃ G' s' acc us, Stp σ H1 G1 s1 σ H' G' s' ∧ StR X.w X.K T σ H' G' s' ∧ H' p = some (.lst us) ∧ RepL X.w X.K H' G' us acc.reverse ∧ ¬ G'.F p ∧ ¬ Tch σ G' s' p ∧ acc.length + m ≤ fuel ∧
      (lcLoop nx vs g ft fe m i acc s').holds (fun acc s' => PF X.w X.K T Q σ H1 G1 s1 (.L acc.reverse) s') fun _ _ _ => False, ⟨fuel, G1, s1, [], [], b0, I1.fresh0 hp, upd_same, .nil, nF, nT, by simp, q⟩, ?_⟩
    rintro i m H2 ⟨G2, s2, acc, zs, b2, I2, hD, rD, nF2, nT2, hm, q2⟩
    have b2' : Stp σ H1 G1 s1 σ H2 G2 s2 := b2
    have o := ok i σ H2 G2 s2 b2 I2
    cases m with
    | zero => exact q2.elim
    | succ m =>
      simp only [lcLoop] at q2
      cases e2 : nx i s2 with
      | none => rw [e2] at q2; exact q2.elim
      | some od =>
        rw [e2] at q2 o
        cases od with
        | none => exact .inl ⟨o, q2 _ _ _ b2 I2 ⟨zs, hD, rD⟩ hp nF2 nT2⟩
        | some d =>
          obtain ⟨o1, o2⟩ := o
          refine .inr ⟨o1, fun H' => ∃ G' s' acc us, Stp σ H1 G1 s1 σ H' G' s' ∧ StR X.w X.K T σ H' G' s' ∧ H' p = some (.lst us) ∧ RepL X.w X.K H' G' us acc.reverse ∧ ¬ G'.F p ∧ ¬ Tch σ G' s' p ∧ acc.length + m ≤ fuel ∧
            (lcLoop nx vs g ft fe m (i + 1) acc s').holds (fun acc s' => PF X.w X.K T Q σ H1 G1 s1 (.L acc.reverse) s') fun _ _ _ => False, fun H' h => ⟨m, Nat.lt_succ_self _, h⟩, fun x H3 y => ?_⟩
          obtain ⟨G3, b3, I3, r3⟩ := o2 x H3 y
          simp only at q2
          split at q2
          · rename_i no
            refine ⟨G3, wipeS vs s2, d, I3.wipe, r3, ?_⟩
            cases e3 : g d (wipeS vs s2) with
            | exc c d s => rw [e3] at q2; exact q2.elim
            | bad => rw [e3] at q2; exact q2.elim
            | ok u s4 =>
              rw [e3] at q2
              intro σ4 H4 G4 fr b4 I4
              have fr : Frm vs (wipe σ vs) σ4 := ⟨fr.1, fun j hj => fr.2 j fun z => hj (hvs j z)⟩
              refine ⟨wipe_eq fr, G4, s4, I4, ?_⟩
              have fr2 : Frm vs σ σ4 := ⟨by rw [fr.1, wipe_length], fun j hj => by rw [fr.2 j hj, wipe_not hj]⟩
              -- what stays, through the turn
              have turn : ∀ {σ5 H5 G5 s5}, Frm vs σ σ5 → Stp σ H3 G3 s2 σ5 H5 G5 s5 → StR X.w X.K T σ5 H5 G5 s5 → Stp σ H2 G2 s2 σ H5 G5 (restS vs s2 s5) ∧ StR X.w X.K T σ H5 G5 (restS vs s2 s5) ∧ H5 p = some (.lst zs) ∧ RepL X.w X.K H5 G5 zs acc.reverse ∧ ¬ G5.F p ∧ ¬ Tch σ G5 (restS vs s2 s5) p := fun {σ5 H5 G5 s5} f5 b5 I5 => by
                obtain ⟨I6, ht, hw⟩ := I3.unwipe no I5 b5 f5
                have b6 : Stp σ H2 G2 s2 σ H5 G5 (restS vs s2 s5) := b3.trans (b5.unwipe ht hw)
                refine ⟨b6, I6, b6.keep p _ hD (fun z => nT2 z.tch), rD.kp (I2.kp b6), fun z => ?_, fun z => ?_⟩
                · rcases b6.nf p z with z | z | z
                  · exact nF2 z
                  · rw [hD] at z; cases z
                  · exact nT2 z
                · rcases b6.tc p z with z | z
                  · exact nT2 z
                  · rw [hD] at z; cases z
              have b34 : Stp σ H3 G3 s2 σ4 H4 G4 s4 := Stp.wipe.trans b4
              simp only at q2
              cases e4 : ft s4 with
              | exc c d s => rw [e4] at q2; exact q2.elim
              | bad => rw [e4] at q2; exact q2.elim
              | ok k s5 =>
                rw [e4] at q2
                intro H5 G5 b5 I5
                cases k with
                | false =>
                  rw [if_neg Bool.false_ne_true]
                  simp only at q2
                  obtain ⟨c1, c2, c3, c4, c5, c6⟩ := turn fr2 (b34.trans b5) I5
                  exact ⟨G5, restS vs s2 s5, acc, zs, b2.trans c1, c2, c3, c4, c5, c6, by omega, q2⟩
                | true =>
                  rw [if_pos rfl]
                  refine ⟨G5, s5, I5, ?_⟩
                  simp only at q2
                  cases e5 : fe s5 with
                  | exc c d s => rw [e5] at q2; exact q2.elim
                  | bad => rw [e5] at q2; exact q2.elim
                  | ok y s6 =>
                    rw [e5] at q2
                    intro H6 G6 v b6 I6 r6
                    obtain ⟨c1, c2, c3, c4, c5, c6⟩ := turn fr2 ((b34.trans b5).trans b6) I6
                    have kf := kp_free (o := .lst (zs ++ [v])) c3 trivial c5
                    have el := c4.length
                    rw [List.length_reverse] at el
                    refine ⟨zs, c3, by rw [← fuel_eq, el]; omega, G6, restS vs s2 s6, y :: acc, zs ++ [v], (b2.trans c1).free hp c3, c2.free c3 trivial c5 c6, upd_same, ?_, c5, c6, by simp only [List.length_cons]; omega, q2⟩
                    rw [List.reverse_cons]
                    exact (c4.kp kf).snoc (r6.kp kf)
          · exact q2.elim
theorem sf_lc {us : List Nat} {elt tg iter : Expr} {ifs : List Expr} {scope : Scope} {own : List (Str × Nat)} {src : Ix} {g : Gx} {ft : Tx} {fe : Ex} (hc : X.calm = true) (hN : X.N.Nodup) (hi : SI X T W0 tg iter src) (ok : BlkOk X.N X.env.scope scope own) (hvs : ∀ i ∈ us, i ∈ own.map (·.2))
    (hg : ∀ (s : Shared) (H : Hp) (C : Addr) (cl : List (Str × Addr)) (fp : List Addr), SG (X.blk s H scope (compEnvC scope cl C X.env) fp) T us tg g) (ht : ∀ (s : Shared) (H : Hp) (C : Addr) (cl : List (Str × Addr)) (fp : List Addr), STs (X.blk s H scope (compEnvC scope cl C X.env) fp) T W0 ifs ft)
    (he : ∀ (s : Shared) (H : Hp) (C : Addr) (cl : List (Str × Addr)) (fp : List Addr), SV (X.blk s H scope (compEnvC scope cl C X.env) fp) T W0 elt fe) (hs : ∀ x, foldedSetIterable iter X.env x = pure x := by intro _; rfl) :
    SF X T W0 (.ListComp elt [⟨tg, iter, ifs, 0⟩] scope pos) (lcF src (own.map (·.2)) g ft fe) :=
  PE.imp (pe_lc (g := tG X.w X.K T us g) (tt := tB X.w X.K T W0 ft) (te := tV X.w X.K T W0 fe) hc hN hi ok hg ht he hs) fun σ H Q h => lc_imp hvs h
/-- name = [..] on one line -/
theorem ss_ownLc {us : List Nat} {i : Nat} {y : Str} {py : Pos} {elt tg iter : Expr} {ifs : List Expr} {scope : Scope} {own : List (Str × Nat)} {spos : Pos} {src : Ix} {g : Gx} {ft : Tx} {fe : Ex} (hc : X.calm = true) (hN : X.N.Nodup) (hy : X.N[i]? = some y) (hyl : X.env.scope.names.lookup y = some .local)
    (hsw : swapsWith (.ListComp elt [⟨tg, iter, ifs, 0⟩] scope pos) (some (.Name y py)) spos.line X.env = pure true) (hi : SI X T W0 tg iter src) (ok : BlkOk X.N X.env.scope scope own) (hvs : ∀ i ∈ us, i ∈ own.map (·.2))
    (hg : ∀ (s : Shared) (H : Hp) (C : Addr) (cl : List (Str × Addr)) (fp : List Addr), SG (X.blk s H scope (compEnvC scope cl C X.env) fp) T us tg g) (ht : ∀ (s : Shared) (H : Hp) (C : Addr) (cl : List (Str × Addr)) (fp : List Addr), STs (X.blk s H scope (compEnvC scope cl C X.env) fp) T W0 ifs ft)
    (he : ∀ (s : Shared) (H : Hp) (C : Addr) (cl : List (Str × Addr)) (fp : List Addr), SV (X.blk s H scope (compEnvC scope cl C X.env) fp) T W0 elt fe) (hs : ∀ x, foldedSetIterable iter X.env x = pure x := by intro _; rfl) :
    SS X T W0 (.Assign [.Name y py] (.ListComp elt [⟨tg, iter, ifs, 0⟩] scope pos) spos) (ownS i (lcF src (own.map (·.2)) g ft fe)) := by
  refine ss_own_of ?_
  exact PS.imp (ps_setLc (g := tG X.w X.K T us g) (tt := tB X.w X.K T W0 ft) (te := tV X.w X.K T W0 fe) hc hN hy hyl hsw hi ok hg ht he hs) fun E σ H h => lc_imp hvs h
end
end G

set_option Elab.async false
set_option linter.all false
set_option maxRecDepth 100000
set_option maxHeartbeats 4000000
/-! G: stores and methods -/
namespace G
open PySem PySem.Spec PyProof.Rows L2

section
variable {X : Cx} {T : Tb} {W : Wi} {pos : Pos}
def putR (c : Co) (d : D) : Sx := fun s => match putCo s c d with
  | some s' => .ok .nx s'
  | none => .bad
def storeD (d k y : D) : Sx := fun s => match content s d with
  | some (.M kvs) => if dctOk kvs k && Nat.ble (putD k y kvs).length line then putR (.M (putD k y kvs)) d s else .bad
  | some (.L xs) => (match k with
    | .int i => (match ixN xs.length i with
      | some j => putR (.L (xs.set j y)) d s
      | none => .bad)
    | _ => .bad)
  | _ => .bad
theorem PV_PS {Q : VK} {E : Ends} {σ : Sg} {H : Hp} {G : Wd} {s : S} : True := trivial
/-- o[k] = v, in the kit's words -/
theorem store_ok9 {pins : List (Addr × Obj)} {st : Shared} {σ : Sg} {H : Hp} {G : Wd} {s : S} {x y v : V} {ov iv u : Value} {d k e : D} {E : Ends} {X9 : Nat → D → S → Prop} (hu : X.A.units + 65 < cLine) (I : Inv X pins σ H st) (rx : RelV x ov) (ry : RelV y iv) (rv : RelV v u) (J : StR X.w X.K T σ H G s) (r1 : RepT X.w X.K σ H G s x d)
    (r2 : RepT X.w X.K σ H G s y k) (r3 : Rep X.w X.K H G v e) (q : (storeD d k e s).holds (PS9 X.w X.K T E σ H G s) X9) : wpAny (model X.prog X.w) X.A (setItem ov iv u) (fun _ s' => ∃ H', Inv X pins σ H' s' ∧ E.nx σ H') X.xe st := by
  unfold storeD at q
  cases c : content s d with
  | none => rw [c] at q; exact q.elim
  | some co =>
    rw [c] at q
    cases co with
    | I _ _ => exact q.elim
    | K _ => exact q.elim
    | M kvs =>
      simp only at q
      split at q
      · rename_i hk
        rw [Bool.and_eq_true, Nat.ble_eq] at hk
        unfold putR at q
        cases p : putCo s (.M (putD k e kvs)) d with
        | none => rw [p] at q; exact q.elim
        | some s' =>
          rw [p] at q
          obtain ⟨a, rfl, ⟨es, h1, h2, h3⟩, wr⟩ := write_co J r1 c p
          cases rx
          refine dct_setItem (by omega) I h1 h2 h3 hk.1 (by rw [line_eq]; exact hk.2) (dctOk_rep hk.1 r2) ry r3 rv fun es' st' I' re => ⟨_, I', ?_⟩
          obtain ⟨J2, b2⟩ := wr (dictHO a es') fun kp => ⟨es', upd_same, re.kp kp, putD_nodup h3⟩
          exact q _ _ _ b2 J2
      · exact q.elim
    | L xs =>
      simp only at q
      cases k with
      | int i =>
        simp only at q
        cases hj : ixN xs.length i with
        | none => rw [hj] at q; exact q.elim
        | some j =>
          rw [hj] at q
          simp only at q
          unfold putR at q
          cases p : putCo s (.L (xs.set j e)) d with
          | none => rw [p] at q; exact q.elim
          | some s' =>
            rw [p] at q
            obtain ⟨a, rfl, ⟨vs, h1, h2⟩, wr⟩ := write_co J r1 c p
            cases r2
            obtain ⟨J2, b2⟩ := wr (.lst (vs.set j v)) fun kp => ⟨_, upd_same, (h2.kp kp).set (r3.kp kp) j⟩
            exact set_list pins st σ H _ _ v ov iv u (E.nx σ) I rx ry rv ⟨a, vs, i, j, rfl, rfl, h1, by rw [h2.length]; exact hj, q _ _ _ b2 J2⟩
      | _ => exact q.elim
def subS (fv fo fi : Ex) : Sx := fun s => (fv s).bind fun y s => (fo s).bind fun d s => (fi s).bind fun k s => storeD d k y s
theorem ss_sub {o i value : Expr} {fv fo fi : Ex} {pos' : Pos} (hu : X.A.units + 65 < cLine) (ho : SO X T W o fo) (hi : SO X T W i fi) (hv : SV X T W value fv) (hs : swapsWith value (some (.Subscript o i pos')) pos.line X.env = pure false := by rfl) :
    SS X T W (.Assign [.Subscript o i pos'] value pos) (subS fv fo fi) := by
  refine ⟨fun pins st σ H E I0 ⟨G, s, J, q⟩ => ?_⟩
  have h : tV X.w X.K T W fv σ H fun v H1 => tO X.w X.K T W fo σ H1 fun x H2 => tO X.w X.K T W fi σ H2 fun y H3 => ∃ G3 s3 d k e, StR X.w X.K T σ H3 G3 s3 ∧ RepT X.w X.K σ H3 G3 s3 x d ∧ RepT X.w X.K σ H3 G3 s3 y k ∧ Rep X.w X.K H3 G3 v e ∧
      (storeD d k e s3).holds (PS9 X.w X.K T E σ H3 G3 s3) fun _ _ _ => True := by
    refine tV_bind J (hX q) fun e s1 H1 G1 v b J1 r1 q => ?_
    refine tO_bind J1 (R.holds_mono q (fun _ _ p => p) fun _ _ _ p => PX.tr b p) fun d s2 H2 G2 x b2 J2 r2 q => ?_
    refine tO_bind J2 (R.holds_mono q (fun _ _ p => p) fun _ _ _ p => PX.tr b2 p) fun k s3 H3 G3 y b3 J3 r3 q => ?_
    refine ⟨G3, s3, d, k, e, J3, r2.step J2 b3 J3, r3, (r1.kp (J1.kp b2)).kp (J2.kp b3), ?_⟩
    exact R.holds_mono q (fun _ _ => PS9.tr ((b.trans b2).trans b3)) fun _ _ _ _ => trivial
  refine wpAny_Assign_Subscript (thn (hv.run pins st σ H _ I0 h) fun u t1 ⟨v, H1, I1, e1, q1⟩ => thn (ho.run pins t1 σ H1 _ I1 q1) fun ov t2 ⟨x, H2, I2, e2, q2⟩ => thn (hi.run pins t2 σ H2 _ I2 q2) fun iv t3 ⟨y, H3, I3, e3, G3, s3, d, k, e, J3, z1, z2, z3, q3⟩ => ?_) hs
  exact thn (store_ok9 hu I3 e2 e3 e1 J3 z1 z2 z3 q3) fun _ t4 ⟨H4, I4, q4⟩ => ⟨σ, H4, I4, q4⟩
/-! ### methods of built-in things -/
def kindOk (k : String) (s : S) (d : D) : Bool := match d with
  | .str _ => decide (k = "str")
  | d => match content s d with
    | some (.L _) => decide (k = "list")
    | some (.M _) => decide (k = "dict")
    | _ => false
/-- of what type a value is, as a method's receiver -/
def tyG (K : PySem.W.Frag) (Ty : String) (x : V) (H : Hp) : Prop := tyV K Ty x H ∨ (Ty = "dict" ∧ ∃ a es, x = .ref a ∧ H a = some (dictHO a es))
theorem tyG_is {pins : List (Addr × Obj)} {σ : Sg} {H : Hp} {st : Shared} {Ty : String} {x : V} {v : Value} (I : Inv X pins σ H st) (r : RelV x v) (ty : tyG X.K Ty x H) :
    st.TypeIs v Ty ∧ ∀ a, v = .ref a → ∃ ob, st.heap.get? a = some ob ∧ ob.dict = none := by
  rcases ty with ty | ⟨rfl, a, es, rfl, e⟩
  · exact tyV_is I r ty
  · cases r
    obtain ⟨_, _, o, h1, h2, h3⟩ := dct_raw I e
    exact ⟨⟨o, h1, h2.1⟩, fun b z => by cases z; exact ⟨o, h1, h2.2.1⟩⟩
def tMth0 (K : PySem.W.Frag) (Ty : String) (r : V → List V → Hp → VK → Prop) (to : TE) : TE := fun σ H Q => to σ H fun x H1 => tyG K Ty x H1 ∧ r x [] H1 Q
def tMth (K : PySem.W.Frag) (Ty : String) (r : V → List V → Hp → VK → Prop) (to : TE) (t : TA) : TE := fun σ H Q => to σ H fun x H1 => tyG K Ty x H1 ∧ t σ H1 fun xs H2 => r x xs H2 Q
section
variable {o e : Expr} {es : List Expr} {to : TE} {t : TA} {name : Str} {apos cpos : Pos} {Ty id : String} {r : V → List V → Hp → VK → Prop}
theorem pe_mth0 (pa : PlainAttrs Ty) (slot : PySem.Slot Ty name id) (hty : typeOf (.builtin id) = pure (.type "method_descriptor")) (hm : MtR X id r) (ho : PE X o to)
    (hb : attributeBase o name X.env (eval o X.env) = eval o X.env := by rfl) (hl : (apos.endLine == cpos.line) = true := by rfl) : PE X (.Call (.Attribute o name apos) [] [] cpos) (tMth0 X.K Ty r to) := by
  refine ⟨fun pins st σ H Q I q => ?_⟩
  refine wpAny_Call_method0_late hb hl (thn (ho.run pins st σ H _ I q) fun v t1 ⟨x, H1, I1, r1, ty, q1⟩ => ?_)
  obtain ⟨k1, k2⟩ := tyG_is I1 r1 ty
  exact ⟨Ty, id, pa, slot, hty, k1, k2, Calls.callWith_builtin rfl (PySem.evalArgs_none (hm pins t1 σ H1 x [] v [] Q I1 r1 .nil q1))⟩
theorem pe_mth (pa : PlainAttrs Ty) (slot : PySem.Slot Ty name id) (hty : typeOf (.builtin id) = pure (.type "method_descriptor")) (hm : MtR X id r) (ho : PE X o to) (ha : PA X (e :: es) t)
    (hb : attributeBase o name X.env (eval o X.env) = eval o X.env := by rfl)
    (hf : ((backTo cpos (starEach (e :: es) X.env)).all (fun y => !y.1) && (backToKw cpos (keywordEach [] X.env)).all (fun y => y.1.isSome) && decide ((e :: es).length + ([] : List Keyword).length + (if ([] : List Keyword).isEmpty then 0 else 1) < 30)) = true := by rfl)
    (hl : (apos.endLine == cpos.line) = true := by rfl) (h1 : starEach (e :: es) X.env = (false, eval e X.env) :: starEach es X.env := by rfl) (h2 : (backTo cpos (starEach es X.env)).any (·.1) = false := by rfl) :
    PE X (.Call (.Attribute o name apos) (e :: es) [] cpos) (tMth X.K Ty r to t) := by
  refine ⟨fun pins st σ H Q I q => ?_⟩
  refine wpAny_Call_method_late hb hf hl rfl (thn (ho.run pins st σ H _ I q) fun v t1 ⟨x, H1, I1, r1, ty, q1⟩ => ?_)
  obtain ⟨k1, k2⟩ := tyG_is I1 r1 ty
  refine ⟨Ty, id, pa, slot, hty, k1, k2, ?_⟩
  have args := ha.run cpos pins t1 σ H1 _ I1 q1
  rw [h1] at args ⊢
  refine Calls.callWith_builtin (by show (false || (backTo cpos (starEach es X.env)).any (·.1)) = false; rw [h2] <;> rfl) (Calls.evalArgs_plain ?_)
  exact thn args fun us t2 ⟨vs, H2, I2, r2, q2⟩ => hm pins t2 σ H2 x vs v us Q I2 r1 r2 q2
end
theorem kindOk_ty {w : World} {K : PySem.W.Frag} {σ : Sg} {H : Hp} {G : Wd} {s : S} {v : V} {d : D} {k : String} (I : StR w K T σ H G s) (r : RepT w K σ H G s v d) (h : kindOk k s d = true) : tyG K k v H := by
  have co : (match content s d with
    | some (.L _) => decide (k = "list")
    | some (.M _) => decide (k = "dict")
    | _ => false) = true → tyG K k v H := fun h => by
    cases c : content s d with
    | none => rw [c] at h; cases h
    | some co =>
      rw [c] at h
      cases co with
      | L xs =>
        obtain ⟨a, vs, rfl, h1, _⟩ := content_L I r c
        exact .inl (.inl ⟨of_decide_eq_true h, vs, .inl (.inl h1)⟩)
      | M kvs =>
        obtain ⟨a, es, rfl, h1, _⟩ := content_M I r c
        exact .inr ⟨of_decide_eq_true h, a, es, rfl, h1⟩
      | I _ _ => cases h
      | K _ => cases h
  cases d with
  | str x =>
    cases r
    exact .inl (of_decide_eq_true (p := k = "str") h)
  | _ => exact co h
abbrev Mop := D → List D → Ex
def MOk (X : Cx) (T : Tb) (W : Wi) (op : Mop) (r : V → List V → Hp → VK → Prop) : Prop := ∀ (σ : Sg) (H : Hp) (G : Wd) (s : S) (x : V) (xs : List V) (d : D) (ds : List D) (Q : VK), StR X.w X.K T σ H G s → RepT X.w X.K σ H G s x d → RepL X.w X.K H G xs ds →
  (op d ds s).holds (PV X.w X.K T Q σ H G s) (PX X.w X.K T W σ H G s) → r x xs H Q
def MOkO (X : Cx) (T : Tb) (W : Wi) (op : Mop) (r : V → List V → Hp → VK → Prop) : Prop := ∀ (σ : Sg) (H : Hp) (G : Wd) (s : S) (x : V) (xs : List V) (d : D) (ds : List D) (Q : VK), StR X.w X.K T σ H G s → RepT X.w X.K σ H G s x d → RepTL X.w X.K σ H G s xs ds →
  (op d ds s).holds (PV X.w X.K T Q σ H G s) (PX X.w X.K T W σ H G s) → r x xs H Q
/-- o.m(..), the arguments by value or in hand -/
def mthE (k : String) (op : Mop) (fo : Ex) (fs : Ax) : Ex := fun s => (fo s).bind fun d s => if kindOk k s d then (fs s).bind fun ds s => op d ds s else .bad
section
variable {o e : Expr} {es : List Expr} {name : Str} {apos cpos : Pos} {Ty id : String} {r : V → List V → Hp → VK → Prop} {op : Mop} {fo : Ex} {fs : Ax}
theorem sv_m0 (ok : MOk X T W op r) (pa : PlainAttrs Ty) (slot : PySem.Slot Ty name id) (hty : typeOf (.builtin id) = pure (.type "method_descriptor")) (hm : MtR X id r) (ho : SO X T W o fo)
    (hb : attributeBase o name X.env (eval o X.env) = eval o X.env := by rfl) (hl : (apos.endLine == cpos.line) = true := by rfl) : SV X T W (.Call (.Attribute o name apos) [] [] cpos) (mthE Ty op fo nilA) := by
  refine PE.imp (pe_mth0 pa slot hty hm ho hb hl) fun σ H Q ⟨G, s, I, q⟩ => ?_
  refine tO_bind I q fun d s1 H1 G1 v b J r1 q => ?_
  split at q
  · rename_i hk
    exact ⟨kindOk_ty J r1 hk, ok σ H1 G1 s1 v [] d [] Q J r1 .nil (hV b q)⟩
  · exact q.elim
theorem sv_m (ok : MOk X T W op r) (pa : PlainAttrs Ty) (slot : PySem.Slot Ty name id) (hty : typeOf (.builtin id) = pure (.type "method_descriptor")) (hm : MtR X id r) (ho : SO X T W o fo) (ha : SL X T W (e :: es) fs)
    (hb : attributeBase o name X.env (eval o X.env) = eval o X.env := by rfl)
    (hf : ((backTo cpos (starEach (e :: es) X.env)).all (fun y => !y.1) && (backToKw cpos (keywordEach [] X.env)).all (fun y => y.1.isSome) && decide ((e :: es).length + ([] : List Keyword).length + (if ([] : List Keyword).isEmpty then 0 else 1) < 30)) = true := by rfl)
    (hl : (apos.endLine == cpos.line) = true := by rfl) (h1 : starEach (e :: es) X.env = (false, eval e X.env) :: starEach es X.env := by rfl) (h2 : (backTo cpos (starEach es X.env)).any (·.1) = false := by rfl) : SV X T W (.Call (.Attribute o name apos) (e :: es) [] cpos) (mthE Ty op fo fs) := by
  refine PE.imp (pe_mth pa slot hty hm ho ha hb hf hl h1 h2) fun σ H Q ⟨G, s, I, q⟩ => ?_
  refine tO_bind I q fun d s1 H1 G1 v b J r1 q => ?_
  split at q
  · rename_i hk
    refine ⟨kindOk_ty J r1 hk, tL_bind J (hV b q) fun ds s2 H2 G2 vs b2 J2 r2 q => ?_⟩
    exact ok σ H2 G2 s2 v vs d ds Q J2 (r1.step J b2 J2) r2 (hV b2 q)
  · exact q.elim
theorem sv_mO (ok : MOkO X T W op r) (pa : PlainAttrs Ty) (slot : PySem.Slot Ty name id) (hty : typeOf (.builtin id) = pure (.type "method_descriptor")) (hm : MtR X id r) (ho : SO X T W o fo) (ha : SLO X T W (e :: es) fs)
    (hb : attributeBase o name X.env (eval o X.env) = eval o X.env := by rfl)
    (hf : ((backTo cpos (starEach (e :: es) X.env)).all (fun y => !y.1) && (backToKw cpos (keywordEach [] X.env)).all (fun y => y.1.isSome) && decide ((e :: es).length + ([] : List Keyword).length + (if ([] : List Keyword).isEmpty then 0 else 1) < 30)) = true := by rfl)
    (hl : (apos.endLine == cpos.line) = true := by rfl) (h1 : starEach (e :: es) X.env = (false, eval e X.env) :: starEach es X.env := by rfl) (h2 : (backTo cpos (starEach es X.env)).any (·.1) = false := by rfl) : SV X T W (.Call (.Attribute o name apos) (e :: es) [] cpos) (mthE Ty op fo fs) := by
  refine PE.imp (pe_mth pa slot hty hm ho ha hb hf hl h1 h2) fun σ H Q ⟨G, s, I, q⟩ => ?_
  refine tO_bind I q fun d s1 H1 G1 v b J r1 q => ?_
  split at q
  · rename_i hk
    refine ⟨kindOk_ty J r1 hk, tLO_bind J (hV b q) fun ds s2 H2 G2 vs b2 J2 r2 q => ?_⟩
    exact ok σ H2 G2 s2 v vs d ds Q J2 (r1.step J b2 J2) r2 (hV b2 q)
  · exact q.elim
end
/-! lists -/
def putE (c : Co) (d r : D) : Ex := fun s => match putCo s c d with
  | some s' => .ok r s'
  | none => .bad
def appendM : Mop := fun d ds s => match content s d, ds with
  | some (.L xs), [y] => if xs.length < line then putE (.L (xs ++ [y])) d .non s else .bad
  | _, _ => .bad
theorem append_ok : MOk X T W appendM rAppend := fun σ H G s x xs d ds Q J r1 r2 q => by
  unfold appendM at q
  split at q
  · rename_i ys y c
    split at q
    · rename_i hl
      unfold putE at q
      cases p : putCo s (.L (ys ++ [y])) d with
      | none => rw [p] at q; exact q.elim
      | some s' =>
        rw [p] at q
        obtain ⟨a, rfl, ⟨vs, h1, h2⟩, wr⟩ := write_co J r1 c p
        cases r2 with
        | @cons v _ _ _ r3 r4 =>
          cases r4
          obtain ⟨J2, b2⟩ := wr (.lst (vs ++ [v])) fun kp => ⟨_, upd_same, (h2.kp kp).snoc (r3.kp kp)⟩
          exact ⟨a, vs, v, rfl, rfl, h1, by rw [h2.length, line_eq]; exact hl, q _ _ _ b2 J2 .non⟩
    · exact q.elim
  · exact q.elim
def extendM : Mop := fun d ds s => match content s d, ds with
  | some (.L xs), [e] => (match content s e with
    | some (.L ys) => if xs.length + ys.length ≤ line then putE (.L (xs ++ ys)) d .non s else .bad
    | _ => .bad)
  | _, _ => .bad
theorem extend_ok : MOkO X T W extendM rExtend := fun σ H G s x xs d ds Q J r1 r2 q => by
  unfold extendM at q
  split at q
  · rename_i ys e c
    split at q
    · rename_i zs c2
      split at q
      · rename_i hl
        unfold putE at q
        cases p : putCo s (.L (ys ++ zs)) d with
        | none => rw [p] at q; exact q.elim
        | some s' =>
          rw [p] at q
          obtain ⟨a, rfl, ⟨vs, h1, h2⟩, wr⟩ := write_co J r1 c p
          obtain ⟨u, rfl, r3⟩ := r2.one
          obtain ⟨b, us, rfl, h3, h4⟩ := content_L J r3 c2
          obtain ⟨J2, b2⟩ := wr (.lst (vs ++ us)) fun kp => ⟨_, upd_same, (h2.kp kp).append (h4.kp kp)⟩
          exact ⟨a, b, vs, us, rfl, rfl, h1, h3, by rw [h2.length, h4.length, line_eq]; exact hl, q _ _ _ b2 J2 .non⟩
      · exact q.elim
    · exact q.elim
  · exact q.elim
theorem RepL.dropLast {w : World} {K : PySem.W.Frag} {H : Hp} {G : Wd} {vs : List V} {ds : List D} (r : RepL w K H G vs ds) : RepL w K H G vs.dropLast ds.dropLast := by
  rw [List.dropLast_eq_take, List.dropLast_eq_take, r.length]
  exact r.take _
theorem RepL.erase {w : World} {K : PySem.W.Frag} {H : Hp} {G : Wd} : ∀ {vs : List V} {ds : List D} (i : Nat), RepL w K H G vs ds → RepL w K H G (vs.eraseIdx i) (ds.eraseIdx i)
  | _, _, _, .nil => .nil
  | _, _, 0, .cons _ t => t
  | _, _, i + 1, .cons r t => .cons r (RepL.erase i t)
def popM : Mop := fun d ds s => match content s d, ds with
  | some (.L xs), [] => (match xs[xs.length - 1]? with
    | some y => putE (.L xs.dropLast) d y s
    | none => .bad)
  | some (.L xs), [.int i] => (match if small62 i then ixN xs.length i else none with
    | some j => (match xs[j]? with
      | some y => putE (.L (xs.eraseIdx j)) d y s
      | none => .bad)
    | none => .bad)
  | _, _ => .bad
theorem pop_ok : MOk X T W popM (fun x vs H Q => rPop x vs H Q ∨ rPopAt x vs H Q) := fun σ H G s x xs d ds Q J r1 r2 q => by
  unfold popM at q
  split at q
  · rename_i ys c
    cases e : ys[ys.length - 1]? with
    | none => rw [e] at q; exact q.elim
    | some y =>
      rw [e] at q
      simp only at q
      unfold putE at q
      cases p : putCo s (.L ys.dropLast) d with
      | none => rw [p] at q; exact q.elim
      | some s' =>
        rw [p] at q
        obtain ⟨a, rfl, ⟨vs, h1, h2⟩, wr⟩ := write_co J r1 c p
        cases r2
        obtain ⟨v, h3, h4⟩ := h2.get e
        obtain ⟨J2, b2⟩ := wr (.lst vs.dropLast) fun kp => ⟨_, upd_same, (h2.kp kp).dropLast⟩
        exact .inl ⟨a, vs, v, rfl, rfl, h1, by rw [h2.length]; exact h3, q _ _ _ b2 J2 (h4.kp (J.kp b2))⟩
  · rename_i ys i c
    cases hj : (if small62 i then ixN ys.length i else none) with
    | none => rw [hj] at q; exact q.elim
    | some j =>
      rw [hj] at q
      simp only at q
      have hs : small62 i = true ∧ ixN ys.length i = some j := by
        split at hj
        · rename_i h; exact ⟨h, hj⟩
        · cases hj
      obtain ⟨hs, hj⟩ := hs
      obtain ⟨s1, s2⟩ := small62_ok hs
      cases e : ys[j]? with
      | none => rw [e] at q; exact q.elim
      | some y =>
        rw [e] at q
        simp only at q
        unfold putE at q
        cases p : putCo s (.L (ys.eraseIdx j)) d with
        | none => rw [p] at q; exact q.elim
        | some s' =>
          rw [p] at q
          obtain ⟨a, rfl, ⟨vs, h1, h2⟩, wr⟩ := write_co J r1 c p
          cases r2 with
          | cons r3 r4 =>
            cases r4
            cases r3
            obtain ⟨v, h3, h4⟩ := h2.get e
            obtain ⟨k1, k2, k3, k4⟩ := ixN_seq hj
            obtain ⟨J2, b2⟩ := wr (.lst (vs.eraseIdx j)) fun kp => ⟨_, upd_same, (h2.kp kp).erase j⟩
            exact .inr ⟨a, vs, i, j, v, rfl, rfl, h1, by omega, by omega, by rw [h2.length]; exact k1, h3, q _ _ _ b2 J2 (h4.kp (J.kp b2))⟩
  · exact q.elim
end
end G

set_option Elab.async false
set_option linter.all false
set_option maxRecDepth 100000
set_option maxHeartbeats 4000000
/-! G: match -/
namespace G
open PySem PySem.Spec PyProof.Rows L2

/-- what a pattern gives: names (told by their slots) and values -/
inductive BndR (X : Cx) (H : Hp) (G : Wd) : List (Str × Value) → List (Nat × D) → Prop
  | nil : BndR X H G [] []
  | cons {n : Str} {u : Value} {v : V} {i : Nat} {d : D} {us : List (Str × Value)} {ds : List (Nat × D)} : X.N[i]? = some n → Loc X.env.scope n → X.env.scope.names.lookup n = some .local → RelV v u → Rep X.w X.K H G v d → BndR X H G us ds → BndR X H G ((n, u) :: us) ((i, d) :: ds)
def OptR (X : Cx) (H : Hp) (G : Wd) : Option (List (Str × Value)) → Option (List (Nat × D)) → Prop
  | none, none => True
  | some us, some ds => BndR X H G us ds
  | _, _ => False
abbrev Mx := D → S → R (Option (List (Nat × D)))
/-- a pattern's functional reading -/
structure SM (X : Cx) (T : Tb) (p : Pattern) (f : Mx) : Prop where
  run : ∀ (pins : List (Addr × Obj)) (st : Shared) (σ : Sg) (H : Hp) (G : Wd) (s : S) (v : V) (u : Value) (d : D) (P : Option (List (Nat × D)) → S → Prop), Inv X pins σ H st → RelV v u → StR X.w X.K T σ H G s → Rep X.w X.K H G v d → (f d s).holds P (fun _ _ _ => False) →
    wpAny (model X.prog X.w) X.A (matchPattern p X.env u) (fun r st' => ∃ H' G' s' o, Inv X pins σ H' st' ∧ Stp σ H G s σ H' G' s' ∧ StR X.w X.K T σ H' G' s' ∧ OptR X H' G' r o ∧ P o s') X.xe st
structure SMs (X : Cx) (T : Tb) (ps : List Pattern) (f : List D → S → R (Option (List (Nat × D)))) : Prop where
  run : ∀ (pins : List (Addr × Obj)) (st : Shared) (σ : Sg) (H : Hp) (G : Wd) (s : S) (vs : List V) (us : List Value) (ds : List D) (P : Option (List (Nat × D)) → S → Prop), Inv X pins σ H st → Vals vs us → StR X.w X.K T σ H G s → RepL X.w X.K H G vs ds → (f ds s).holds P (fun _ _ _ => False) →
    wpAny (model X.prog X.w) X.A (matchEach ps X.env us) (fun r st' => ∃ H' G' s' o, Inv X pins σ H' st' ∧ Stp σ H G s σ H' G' s' ∧ StR X.w X.K T σ H' G' s' ∧ OptR X H' G' r o ∧ P o s') X.xe st
theorem BndR.kp {X : Cx} {H H' : Hp} {G G' : Wd} (k : Kp H G H' G') : ∀ {us : List (Str × Value)} {ds : List (Nat × D)}, BndR X H G us ds → BndR X H' G' us ds
  | _, _, .nil => .nil
  | _, _, .cons a b c d e f => .cons a b c d (e.kp k) (f.kp k)
theorem BndR.append {X : Cx} {H : Hp} {G : Wd} : ∀ {us us' : List (Str × Value)} {ds ds' : List (Nat × D)}, BndR X H G us ds → BndR X H G us' ds' → BndR X H G (us ++ us') (ds ++ ds')
  | _, _, _, _, .nil, h => h
  | _, _, _, _, .cons a b c d e f, h => .cons a b c d e (f.append h)
section
variable {X : Cx} {T : Tb} {pos : Pos}
def valM (c : D) : Mx := fun d s => match eqB s d c with
  | some true => .ok (some []) s
  | some false => .ok none s
  | none => .bad
/-- a written value -/
theorem sm_val {e : Expr} {c : D} {p2 : Pos} (hu : X.A.units + 64 < cLine) (he : SV X T W0 e (constE c)) : SM X T (.MatchValue e p2) (valM c) := by
  refine ⟨fun pins st σ H G s v u d P I rv J rd q => ?_⟩
  unfold valM at q
  cases h : eqB s d c with
  | none => rw [h] at q; exact q.elim
  | some b =>
    rw [h] at q
    refine wpAny_matchPattern_Value (thn (he.run pins st σ H (fun x H1 => ∃ G1, Stp σ H G s σ H1 G1 s ∧ StR X.w X.K T σ H1 G1 s ∧ Rep X.w X.K H1 G1 x c) I ⟨G, s, J, fun H1 G1 x b1 J1 r1 => ⟨G1, b1, J1, r1⟩⟩) fun y t1 ⟨x, H1, I1, rx, G1, b1, J1, r1⟩ => ?_)
    have r0 : RepT X.w X.K σ H1 G1 s v d := RepT.of (rd.kp (J.kp b1))
    have hop := b2_eq (X := X) (T := T) (W := W0) hu pins t1 σ H1 v x u y G1 s d c (fun z H2 => z = .bl b ∧ ∃ G2, Stp σ H1 G1 s σ H2 G2 s ∧ StR X.w X.K T σ H2 G2 s) I1 rv rx J1 r0 (RepT.of r1) (by
      show (truR s (eqB s d c)).holds _ _
      rw [h]
      intro H2 G2 z b2 J2 r2
      cases r2
      exact ⟨rfl, G2, b2, J2⟩)
    refine thn hop fun z t2 ⟨x2, H2, I2, r2, e2, G2, b2, J2⟩ => ?_
    subst e2
    cases r2
    refine wpAny_truthy_bool ?_
    cases b with
    | true =>
      rw [if_pos rfl]
      exact ⟨H2, G2, s, some [], I2, b1.trans b2, J2, .nil, q⟩
    | false =>
      rw [if_neg Bool.false_ne_true]
      exact ⟨H2, G2, s, none, I2, b1.trans b2, J2, trivial, q⟩
def noneM : Mx := fun d s => match d with
  | .non => .ok (some []) s
  | _ => .ok none s
theorem sm_none {p2 : Pos} : SM X T (.MatchSingleton .none p2) noneM := by
  refine ⟨fun pins st σ H G s v u d P I rv J rd q => ?_⟩
  have miss : ∀ u, u ≠ .none → (matchPattern (.MatchSingleton .none p2) X.env u) = pure none := fun u h => by
    rw [arm_matchPattern_MatchSingleton]
    cases u <;> first | rfl | exact absurd rfl h
  cases rd with
  | non =>
    cases rv
    exact wpAny_matchPattern_Singleton_None ⟨H, G, s, some [], I, Stp.refl, J, .nil, q⟩
  | bl b => cases rv; exact wpAny_matchPattern_Singleton_miss (miss _ (fun z => nomatch z)) ⟨H, G, s, none, I, Stp.refl, J, trivial, q⟩
  | int b => obtain ⟨t, rfl⟩ := rv; exact wpAny_matchPattern_Singleton_miss (miss _ (fun z => nomatch z)) ⟨H, G, s, none, I, Stp.refl, J, trivial, q⟩
  | str b => obtain ⟨t, rfl⟩ := rv; exact wpAny_matchPattern_Singleton_miss (miss _ (fun z => nomatch z)) ⟨H, G, s, none, I, Stp.refl, J, trivial, q⟩
  | lst _ _ _ => cases rv; exact wpAny_matchPattern_Singleton_miss (miss _ (fun z => nomatch z)) ⟨H, G, s, none, I, Stp.refl, J, trivial, q⟩
  | tup _ _ => cases rv; exact wpAny_matchPattern_Singleton_miss (miss _ (fun z => nomatch z)) ⟨H, G, s, none, I, Stp.refl, J, trivial, q⟩
  | dct _ _ _ _ => cases rv; exact wpAny_matchPattern_Singleton_miss (miss _ (fun z => nomatch z)) ⟨H, G, s, none, I, Stp.refl, J, trivial, q⟩
  | cel _ => cases rv; exact wpAny_matchPattern_Singleton_miss (miss _ (fun z => nomatch z)) ⟨H, G, s, none, I, Stp.refl, J, trivial, q⟩
  | scr _ => cases rv; exact wpAny_matchPattern_Singleton_miss (miss _ (fun z => nomatch z)) ⟨H, G, s, none, I, Stp.refl, J, trivial, q⟩
def capM (i : Nat) : Mx := fun d s => .ok (some [(i, d)]) s
theorem sm_cap {i : Nat} {x : Str} {p2 : Pos} (hi : X.N[i]? = some x) (hx : Loc X.env.scope x) (hl : X.env.scope.names.lookup x = some .local) : SM X T (.MatchAs none (some x) p2) (capM i) :=
  ⟨fun pins st σ H G s v u d P I rv J rd q => wpAny_matchPattern_Capture ⟨H, G, s, some [(i, d)], I, Stp.refl, J, .cons hi hx hl rv rd .nil, q⟩⟩
def wildM : Mx := fun _ s => .ok (some []) s
theorem sm_wild {p2 : Pos} : SM X T (.MatchAs none none p2) wildM :=
  ⟨fun pins st σ H G s v u d P I rv J rd q => wpAny_matchPattern_Capture ⟨H, G, s, some [], I, Stp.refl, J, .nil, q⟩⟩
abbrev Mxs := List D → S → R (Option (List (Nat × D)))
def nilM : Mxs := fun _ s => .ok (some []) s
def consM (f : Mx) (g : Mxs) : Mxs := fun ds s => match ds with
  | [] => .bad
  | d :: r => (f d s).bind fun o s => match o with
    | none => .ok none s
    | some bs => (g r s).bind fun o2 s => match o2 with
      | none => .ok none s
      | some more => .ok (some (bs ++ more)) s
theorem sms_nil : SMs X T [] nilM := ⟨fun pins st σ H G s vs us ds P I rv J rd q => wpAny_matchEach_nil ⟨H, G, s, some [], I, Stp.refl, J, .nil, q⟩⟩
theorem sms_cons {p : Pattern} {ps : List Pattern} {f : Mx} {g : Mxs} (h : SM X T p f) (hs : SMs X T ps g) (hp : p.isStar = false := by rfl) : SMs X T (p :: ps) (consM f g) := by
  refine ⟨fun pins st σ H G s vs us ds P I rv J rd q => ?_⟩
  cases rd with
  | nil => exact q.elim
  | @cons v d vs ds r1 r2 =>
    cases rv with
    | @cons _ u _ us e1 e2 =>
      have q : ((f d s).bind fun o s => match o with
        | none => .ok none s
        | some bs => (g ds s).bind fun o2 s => match o2 with
          | none => .ok none s
          | some more => .ok (some (bs ++ more)) s).holds P (fun _ _ _ => False) := q
      refine wpAny_matchEach_cons (thn (h.run pins st σ H G s v u d (fun o s1 => (match o with
        | none => R.ok none s1
        | some bs => (g ds s1).bind fun o2 s => match o2 with
          | none => .ok none s
          | some more => .ok (some (bs ++ more)) s).holds P (fun _ _ _ => False)) I e1 J r1 (R.holds_bind.mp q)) fun r t1 ⟨H1, G1, s1, o, I1, b1, J1, or1, q1⟩ => ?_) hp
      cases r with
      | none =>
        cases o with
        | none => exact ⟨H1, G1, s1, none, I1, b1, J1, trivial, q1⟩
        | some _ => exact or1.elim
      | some bs =>
        cases o with
        | none => exact or1.elim
        | some ds1 =>
          refine thn (hs.run pins t1 σ H1 G1 s1 vs us ds (fun o2 s2 => (match o2 with
            | none => R.ok none s2
            | some more => .ok (some (ds1 ++ more)) s2).holds P (fun _ _ _ => False)) I1 e2 J1 (r2.kp (J.kp b1)) (R.holds_bind.mp q1)) fun r2 t2 ⟨H2, G2, s2, o2, I2, b2, J2, or2, q2⟩ => ?_
          cases r2 with
          | none =>
            cases o2 with
            | none => exact ⟨H2, G2, s2, none, I2, b1.trans b2, J2, trivial, q2⟩
            | some _ => exact or2.elim
          | some bs2 =>
            cases o2 with
            | none => exact or2.elim
            | some ds2 => exact ⟨H2, G2, s2, some (ds1 ++ ds2), I2, b1.trans b2, J2, BndR.append (BndR.kp (J1.kp b2) or1) or2, q2⟩
/-- (p, q, ..): tuples of that length; nothing else is looked at but what is no sequence -/
def seqM (n : Nat) (f : Mxs) : Mx := fun d s => match d with
  | .tup xs => if xs.length = n then f xs s else .ok none s
  | .non => .ok none s
  | .bl _ => .ok none s
  | .int _ => .ok none s
  | .str _ => .ok none s
  | .dct _ => .ok none s
  | _ => .bad
theorem sm_seq {ps : List Pattern} {f : Mxs} {n : Nat} {p2 : Pos} (hc : X.calm = true) (h : SMs X T ps f) (hn : ps.length = n := by rfl) (hstar : ps.findIdx? (·.isStar) = none := by rfl)
    (hwild : (ps.all fun p => p.isWildcard || (p.isStar && p.names.isEmpty)) = false := by rfl) : SM X T (.MatchSequence ps p2) (seqM n f) := by
  refine ⟨fun pins st σ H G s v u d P I rv J rd q => ?_⟩
  have no : ∀ Ty, st.TypeIs u Ty → flagOfType true (.type Ty) = pure false → P none s → wpAny (model X.prog X.w) X.A (matchPattern (.MatchSequence ps p2) X.env u) (fun r st' => ∃ H' G' s' o, Inv X pins σ H' st' ∧ Stp σ H G s σ H' G' s' ∧ StR X.w X.K T σ H' G' s' ∧ OptR X H' G' r o ∧ P o s') X.xe st := fun Ty hT hf q => by
    refine wpAny_matchPattern_Sequence (wpAny_collectionFlag hT hf ?_) hstar hwild
    rw [if_neg Bool.false_ne_true]
    exact ⟨H, G, s, none, I, Stp.refl, J, trivial, q⟩
  cases rd with
  | non => cases rv; exact no "NoneType" rfl flag_seq_None q
  | bl b => cases rv; exact no "bool" rfl flag_seq_bool q
  | int b => obtain ⟨t, rfl⟩ := rv; exact no "int" (typeIs_int st _ t) flag_seq_int q
  | str b => obtain ⟨t, rfl⟩ := rv; exact no "str" (typeIs_str st _ t) flag_seq_str q
  | dct a b c e =>
    cases rv
    obtain ⟨_, _, raw⟩ := dct_raw I b
    exact no "dict" raw.typeIs flag_seq_dict q
  | @tup a vs ds h1 h2 =>
    cases rv
    obtain ⟨its, r, ht, hz⟩ := I.tuple h1
    have hfit : (its.toArray.size : Int) < 2 ^ 63 := by
      have l := r.length
      have z := sizeLine_eq
      rw [List.size_toArray]
      omega
    have ln : its.toArray.size = ds.length := by rw [List.size_toArray, ← r.length, h2.length]
    have q : (if ds.length = n then f ds s else R.ok none s).holds P (fun _ _ _ => False) := q
    split at q
    · rename_i e
      refine matchSeq_tuple_hit ht hfit (by rw [ln, e, hn]) ?_ hstar hwild
      rw [hn, ← e, ← ln]
      refine unpackItems_tuple (I.ok.hd hc) (show IsTup st.heap a its.toArray from ht) fun h' hx => ?_
      have I1 : Inv X pins σ H { st with heap := h', toks := st.toks + 1 + 1 } := I.kept fun b o e => hx b o (Nat.ne_of_lt (Heap.lt_size e)) e
      exact h.run pins _ σ H G s vs _ ds P I1 (by simpa using r) J h2 q
    · rename_i e
      exact matchSeq_tuple_miss ht hfit (by rw [ln, hn]; exact e) ⟨H, G, s, none, I.tok _, Stp.refl, J, trivial, q⟩ hstar hwild
  | lst _ _ _ => exact q.elim
  | cel _ => exact q.elim
  | scr _ => exact q.elim
/-! the cases -/
def bindB : List (Nat × D) → S → Option S
  | [], s => some s
  | (i, d) :: r, s => if i < s.env.length then bindB r (putV i (.val d) s) else none
theorem bindB_ok {M : Model} {A : Around} {E : Value → Shared → Prop} : ∀ {us : List (Str × Value)} {bs : List (Nat × D)} {pins : List (Addr × Obj)} {st : Shared} {σ : Sg} {H : Hp} {G : Wd} {s s' : S} {Q : Unit → Shared → Prop}, X.N.Nodup → Inv X pins σ H st → StR X.w X.K T σ H G s → BndR X H G us bs → bindB bs s = some s' →
    (∀ σ' st', Inv X pins σ' H st' → Stp σ H G s σ' H G s' → StR X.w X.K T σ' H G s' → Q () st') → wpAny M A (assignInOrder (us.map fun (n, _) => bindName X.env n) (us.map (·.2))) Q E st
  | _, _, _, _, _, _, _, s, s', _, hN, I, J, .nil, e, h => by
    cases e
    exact wpAny_assignInOrder_none (h _ _ I Stp.refl J)
  | _, _, _, _, _, _, _, s, s', _, hN, I, J, .cons (n := n) (u := u) (v := v) (i := i) (d := d) (us := us) (ds := ds) a b c e f g, eq, h => by
    unfold bindB at eq
    split at eq
    · rename_i hl
      obtain ⟨J1, b1⟩ := J.set_val f hl
      refine wpAny_assignInOrder_more (wpAny_bindName (store_ok I hN a b e (fun st1 I1 => ?_) (.inr c)))
      exact bindB_ok hN I1 J1 g eq fun σ' st' I' b2 J2 => h _ _ I' (b1.trans b2) J2
    · cases eq
structure SMc (X : Cx) (T : Tb) (W : Wi) (cs : List MatchCase) (f : D → Sx) : Prop where
  run : ∀ (pins : List (Addr × Obj)) (st : Shared) (σ : Sg) (H : Hp) (G : Wd) (s : S) (v : V) (u : Value) (d : D) (E : Ends) (first : Bool), Inv X pins σ H st → RelV v u → StR X.w X.K T σ H G s → Rep X.w X.K H G v d → (f d s).holds (PS9 X.w X.K T E σ H G s) (PXs X.w X.K T W σ H G s) →
    wpAny (model X.prog X.w) X.A (matchCases cs X.env u first) (L2.SP X pins E) X.xe st
theorem smc_nil {W : Wi} : SMc X T W [] fun _ s => .ok .nx s := ⟨fun pins st σ H G s v u d E first I rv J rd q => wpAny_matchCases_nil ⟨σ, H, I, q _ _ _ Stp.refl J⟩⟩
def caseS (fp : Mx) (body : Sx) (rest : D → Sx) : D → Sx := fun d s => match fp d s with
  | .ok none s1 => rest d s1
  | .ok (some bs) s1 => (match bindB bs s1 with
    | some s2 => body s2
    | none => .bad)
  | _ => .bad
theorem smc_cons {W : Wi} {p : Pattern} {body : List Stmt} {rest : List MatchCase} {fp : Mx} {fb : Sx} {fr : D → Sx} (hN : X.N.Nodup) (hp : SM X T p fp) (hb : SSs X T W body fb) (hr : SMc X T W rest fr) : SMc X T W (⟨p, none, body⟩ :: rest) (caseS fp fb fr) := by
  refine ⟨fun pins st σ H G s v u d E first I rv J rd q => ?_⟩
  unfold caseS at q
  refine wpAny_matchCases_cons (thn (hp.run pins st σ H G s v u d (fun o s1 => (match o with
    | none => fr d s1
    | some bs => (match bindB bs s1 with
      | some s2 => fb s2
      | none => .bad)).holds (PS9 X.w X.K T E σ H G s) (PXs X.w X.K T W σ H G s)) I rv J rd ?_) fun r t1 ⟨H1, G1, s1, o, I1, b1, J1, or1, q1⟩ => ?_)
  · cases e : fp d s with
    | ok o s1 =>
      rw [e] at q
      cases o with
      | none => exact q
      | some bs => exact q
    | exc c d s => rw [e] at q; exact q
    | bad => rw [e] at q; exact q
  · cases r with
    | none =>
      cases o with
      | none => exact hr.run pins t1 σ H1 G1 s1 v u d E false I1 rv J1 (rd.kp (J.kp b1)) (hS b1 q1)
      | some _ => exact or1.elim
    | some us =>
      cases o with
      | none => exact or1.elim
      | some bs =>
        simp only at q1 ⊢
        cases e : bindB bs s1 with
        | none => rw [e] at q1; exact q1.elim
        | some s2 =>
          rw [e] at q1
          exact bindB_ok hN I1 J1 or1 e fun σ' st' I2 b2 J2 => hb.run pins st' σ' H1 E I2 ⟨G1, s2, J2, hS (b1.trans b2) q1⟩
def matchS (f : Ex) (fc : D → Sx) : Sx := fun s => (f s).bind fun d s => fc d s
theorem ss_match {W : Wi} {e : Expr} {cs : List MatchCase} {f : Ex} {fc : D → Sx} (he : SV X T W e f) (hc : SMc X T W cs fc) : SS X T W (.Match e cs pos) (matchS f fc) := by
  refine ⟨fun pins st σ H E I ⟨G, s, J, q⟩ => ?_⟩
  have h : tV X.w X.K T W f σ H fun v H1 => ∃ G1 s1 d, StR X.w X.K T σ H1 G1 s1 ∧ Rep X.w X.K H1 G1 v d ∧ (fc d s1).holds (PS9 X.w X.K T E σ H1 G1 s1) (PXs X.w X.K T W σ H1 G1 s1) := by
    refine ⟨G, s, J, ?_⟩
    unfold matchS at q
    cases e : f s with
    | ok d s1 => rw [e] at q; exact fun H1 G1 v b J1 r => ⟨G1, s1, d, J1, r, hS b q⟩
    | exc c d s1 => rw [e] at q; exact ⟨q.1, fun H' G' b J => q.2 σ H' G' b J⟩
    | bad => rw [e] at q; exact q
  exact wpAny_Match (thn (he.run pins st σ H _ I h) fun u t1 ⟨v, H1, I1, rv, G1, s1, d, J1, rd, q1⟩ => hc.run pins t1 σ H1 G1 s1 v u d E true I1 rv J1 rd q1)
end
end G

set_option Elab.async false
set_option linter.all false
set_option maxRecDepth 100000
set_option maxHeartbeats 4000000
namespace G
open PySem PySem.Spec PyProof.Rows L2
/-! ### a dict that is walked over is not written -/
def lockS (n : Nat) (kvs : List (D × D)) (s : S) : S := { s with sto := s.sto.set n (.K kvs) }
section
variable {w : World} {K : PySem.W.Frag} {T : Tb} {σ σ' : Sg} {H H' : Hp} {G G' : Wd} {s s' : S} {n : Nat} {kvs : List (D × D)}
theorem StR.lock (I : StR w K T σ H G s) (h : s.sto[n]? = some (.M kvs)) : StR w K T σ H G (lockS n kvs s) := by
  refine ⟨I.len, I.val, I.own, I.oin, ?_, fun m c e => ?_, I.inj, I.sep, I.frs⟩
  · show (s.sto.set n _).length = _
    rw [List.length_set]; exact I.cnt
  · by_cases z : m = n
    · subst z
      have hl : m < s.sto.length := (List.getElem?_eq_some_iff.mp h).1
      have e : (s.sto.set m (.K kvs))[m]? = some c := e
      rw [List.getElem?_set_self hl] at e
      cases e
      have := I.sto m _ h
      exact this
    · have e : (s.sto.set n (.K kvs))[m]? = some c := e
      rw [List.getElem?_set_ne (Ne.symm z)] at e
      exact I.sto m c e
theorem Stp.lock (h : s.sto[n]? = some (.M kvs)) : Stp σ H G s σ H G (lockS n kvs s) := by
  refine ⟨fun _ _ e _ => e, fun _ e => e, fun _ _ => rfl, Nat.le_refl _, fun _ e => .inl e, fun _ e => .inl e, fun a e => ?_, fun _ e => e⟩
  rcases e with ⟨m, hm, e, nk⟩ | e
  · refine .inl (.inl ⟨m, hm, e, fun k z => ?_⟩)
    by_cases y : m = n
    · subst y; rw [h] at z; cases z
    · refine nk k ?_
      show (s.sto.set n (.K kvs))[m]? = _
      rw [List.getElem?_set_ne (Ne.symm y)]
      exact z
  · exact .inl (.inr e)
/-- what is walked over stays -/
theorem StR.held (I : StR w K T σ H G s) (hn : n < G.n) (h : s.sto[n]? = some (.K kvs)) : ¬ Wrt σ G s (G.rho n) := by
  rintro (⟨m, hm, e, nk⟩ | ⟨i, c, e1, e2⟩)
  · rw [I.inj m n hm hn e] at nk
    exact nk _ h
  · exact I.sep i c n e1 hn e2
/-- behind the walk it may be written as before -/
def zipK : List Co → List Co → List Co
  | a :: as, b :: bs => (match a, b with
    | .K _, b => b
    | _, .K kvs => .M kvs
    | _, b => b) :: zipK as bs
  | [], bs => bs
  | _, [] => []
def unlk (s s' : S) : S := { s' with sto := zipK s.sto s'.sto }
theorem zipK_len : ∀ as bs : List Co, (zipK as bs).length = bs.length
  | [], bs => by cases bs <;> rfl
  | a :: as, [] => rfl
  | a :: as, b :: bs => by simp [zipK, zipK_len as bs]
theorem zipK_get : ∀ (as bs : List Co) (n : Nat) (c : Co), (zipK as bs)[n]? = some c → bs[n]? = some c ∨ ∃ kvs a, bs[n]? = some (.K kvs) ∧ c = .M kvs ∧ as[n]? = some a ∧ ∀ k, a ≠ .K k
  | [], bs, n, c, h => by cases bs <;> exact .inl h
  | a :: as, [], n, c, h => by simp [zipK] at h
  | a :: as, b :: bs, 0, c, h => by
    simp only [zipK, List.getElem?_cons_zero, Option.some.injEq] at h
    split at h
    · exact .inl (by simp [h])
    · rename_i kvs nk
      exact .inr ⟨kvs, a, by simp, h.symm, by simp, fun k z => nk k z⟩
    · exact .inl (by simp [h])
  | a :: as, b :: bs, n + 1, c, h => by
    simp only [zipK, List.getElem?_cons_succ] at h
    simpa using zipK_get as bs n c h
theorem unlk_ok (I : StR w K T σ H G s) (b : Stp σ H G s σ' H' G' s') (J : StR w K T σ' H' G' s') : StR w K T σ' H' G' (unlk s s') ∧ Stp σ H G s σ' H' G' (unlk s s') := by
  refine ⟨⟨J.len, J.val, J.own, J.oin, ?_, fun n c e => ?_, J.inj, J.sep, J.frs⟩, ⟨b.keep, b.fr, b.rh, b.le, b.nf, b.tc, fun a e => ?_, b.dm⟩⟩
  · show (zipK _ _).length = _
    rw [zipK_len]; exact J.cnt
  · rcases zipK_get _ _ _ _ e with e2 | ⟨kvs, a, e2, e3, _, _⟩
    · exact J.sto n c e2
    · have := J.sto n _ e2
      rw [e3]
      exact this
  · rcases e with ⟨n, hn, e, nk⟩ | e
    · by_cases z : ∃ kvs, s'.sto[n]? = some (.K kvs)
      · obtain ⟨kvs, z⟩ := z
        have hl : n < (zipK s.sto s'.sto).length := by rw [zipK_len]; exact (List.getElem?_eq_some_iff.mp z).1
        have g := List.getElem?_eq_getElem hl
        rcases zipK_get _ _ _ _ g with e1 | ⟨k2, a2, e1, e2, e3, e4⟩
        · rw [z] at e1
          refine absurd ?_ (nk kvs)
          show (zipK s.sto s'.sto)[n]? = _
          rw [g, ← Option.some.inj e1]
        · have hn2 : n < G.n := by rw [← I.cnt]; exact (List.getElem?_eq_some_iff.mp e3).1
          exact .inl (.inl ⟨n, hn2, by rw [← b.rh n hn2]; exact e, fun k z2 => by rw [e3] at z2; cases z2; exact e4 _ rfl⟩)
      · exact b.wc a (.inl ⟨n, hn, e, fun kvs q => z ⟨kvs, q⟩⟩)
    · exact b.wc a (.inr e)
end
def unlS (f : Sx) : Sx := fun s => match f s with
  | .ok fl s' => .ok fl (unlk s s')
  | r => r
def unlE (f : Ex) : Ex := fun s => match f s with
  | .ok fl s' => .ok fl (unlk s s')
  | r => r
def unlF (f : Fx) : Fx := fun s => match f s with
  | .ok fl s' => .ok fl (unlk s s')
  | r => r
section
variable {X : Cx} {T : Tb} {W : Wi}
theorem SS.unl {st : Stmt} {f : Sx} (h : SS X T W st f) : SS X T W st (unlS f) := by
  refine PS.imp h fun E σ H ⟨G, s, I, q⟩ => ⟨G, s, I, ?_⟩
  unfold unlS at q
  cases e : f s with
  | ok fl s1 =>
    rw [e] at q
    intro σ' H' G' b J
    obtain ⟨J2, b2⟩ := unlk_ok I b J
    exact q _ _ _ b2 J2
  | exc c d s1 => rw [e] at q; exact q
  | bad => rw [e] at q; exact q
theorem RepT.unl {w : World} {K : PySem.W.Frag} {σ : Sg} {H : Hp} {G : Wd} {s s1 : S} {v : V} {d : D} (r : RepT w K σ H G s1 v d) : RepT w K σ H G (unlk s s1) v d := by
  cases d with
  | own i => exact r
  | _ => exact r
theorem SV.unl {e : Expr} {f : Ex} (h : SV X T W e f) : SV X T W e (unlE f) := by
  refine PE.imp h fun σ H Q ⟨G, s, I, q⟩ => ⟨G, s, I, ?_⟩
  unfold unlE at q
  cases e : f s with
  | ok fl s1 =>
    rw [e] at q
    intro H' G' v b J r
    obtain ⟨J2, b2⟩ := unlk_ok I b J
    exact q _ _ _ b2 J2 r
  | exc c d s1 => rw [e] at q; exact q
  | bad => rw [e] at q; exact q
theorem SF.unl {e : Expr} {f : Fx} (h : SF X T W e f) : SF X T W e (unlF f) := by
  refine PE.imp h fun σ H Q ⟨G, s, I, q⟩ => ⟨G, s, I, ?_⟩
  unfold unlF at q
  cases e : f s with
  | ok fl s1 =>
    rw [e] at q
    intro H' G' a b J r n1 n2 n3
    obtain ⟨J2, b2⟩ := unlk_ok I b J
    exact q _ _ _ b2 J2 r n1 n2 n3
  | exc c d s1 => rw [e] at q; exact q
  | bad => rw [e] at q; exact q
end
end G

set_option Elab.async false
set_option linter.all false
set_option maxRecDepth 100000
set_option maxHeartbeats 4000000
/-! G: dicts walked -/
namespace G
open PySem PySem.Spec PyProof.Rows L2

theorem RepE.keysV {w : World} {K : PySem.W.Frag} {H : Hp} {G : Wd} : ∀ {es : List DictEntry} {kvs : List (D × D)}, RepE w K H G es kvs → ∃ us, Vals us (es.map (·.key)) ∧ RepL w K H G us (kvs.map (·.1))
  | _, _, .nil => ⟨[], .nil, .nil⟩
  | _, _, .cons a b c d e f g => by
    obtain ⟨us, h1, h2⟩ := RepE.keysV g
    exact ⟨_ :: us, .cons b h1, .cons c h2⟩
theorem RepE.valsV {w : World} {K : PySem.W.Frag} {H : Hp} {G : Wd} : ∀ {es : List DictEntry} {kvs : List (D × D)}, RepE w K H G es kvs → ∃ us, Vals us (es.map (·.val)) ∧ RepL w K H G us (kvs.map (·.2))
  | _, _, .nil => ⟨[], .nil, .nil⟩
  | _, _, .cons a b c d e f g => by
    obtain ⟨us, h1, h2⟩ := RepE.valsV g
    exact ⟨_ :: us, .cons e h1, .cons f h2⟩
/-- the keys, the values, the pairs of the dict at a, which stays -/
def ItKD (a : Addr) (q : DE) (us : List V) : It := ⟨fun i H => H a = some (dictHO a q) ∧ i < us.length, fun i H x H' => H' = H ∧ us[i]? = some x, fun i H => H a = some (dictHO a q) ∧ us.length ≤ i⟩
def ItID (a : Addr) (q : DE) (us ws : List V) : It :=
  ⟨fun i H => H a = some (dictHO a q) ∧ i < us.length, fun i H x H' => ∃ p y z, us[i]? = some y ∧ ws[i]? = some z ∧ x = .ref p ∧ H p = none ∧ H' = upd H p (.tup [y, z]), fun i H => H a = some (dictHO a q) ∧ us.length ≤ i⟩
section
variable {P : Program} {w : World} {K : PySem.W.Frag} {tg : Expr} {a : Addr} {q : DE} {us ws : List V}
theorem turn_kD (p : Addr) (hv : Vals us (q.l.map (·.key))) : Turn P w K tg (ItKD a q us) [p] p (fun i h => h.IsKeyIter p a i q.l.length q.ep) where
  mem := List.mem_singleton.mpr rfl
  obj := fun i h st b hb => by
    cases List.mem_singleton.mp hb
    obtain ⟨ob, e1, _, e2⟩ := st
    exact ⟨ob, e1, fun v z => by rw [e2] at z; cases z⟩
  keep := fun i h h' st k => st.at fun ob e => k p (List.mem_singleton.mpr rfl) ob e
  item := by
    rintro X rfl rfl rfl hc i pins st σ H E I hf ht ⟨ha, hi⟩
    obtain ⟨_, _, raw⟩ := dct_raw I ha
    obtain ⟨f0, f1, f2, f3, f4, f5⟩ := hf p (List.mem_singleton.mpr rfl)
    have ln : us.length = q.l.length := by rw [hv.length, List.length_map]
    have hi2 : i < q.l.toArray.size := by rw [List.size_toArray]; omega
    obtain ⟨x, hx⟩ : ∃ x, us[i]? = some x := ⟨_, List.getElem?_eq_getElem hi⟩
    obtain ⟨u, hu, ru⟩ := hv.get hx
    have eu : q.l.toArray[i].key = u := by
      rw [List.getElem?_map, List.getElem?_eq_getElem (by simpa using hi2)] at hu
      simpa using hu
    refine wpAny_pyNext_keys_item_raw (show st.heap.IsKeyIter p a i q.l.toArray.size q.ep by rw [List.size_toArray]; exact ht) raw hi2 fun h' ht' sb => ?_
    have I' : Inv X pins σ H { st with heap := h' } := I.turned (t' := st.toks) (fun b ob hb e => (sb.2 b hb).trans e) f0 f1 f3 f4 f5
    obtain ⟨ob, e1, e2, e3⟩ := id ht'
    refine ⟨_, rfl, go_of (s := { st with heap := h' }) e1 e2 e3 (by decide) ⟨x, H, I', by rw [eu]; exact ru, ⟨rfl, hx⟩, by rw [List.size_toArray] at ht'; exact ht', fun b hb => (hf b hb).1⟩⟩
  done := by
    rintro X rfl rfl rfl hc i pins st σ H E I hf ht ⟨ha, hi⟩
    obtain ⟨_, _, raw⟩ := dct_raw I ha
    obtain ⟨f0, f1, f2, f3, f4, f5⟩ := hf p (List.mem_singleton.mpr rfl)
    have ln : us.length = q.l.length := by rw [hv.length, List.length_map]
    exact wpAny_pyNext_keys_end_raw (I.ok.hd hc) (show st.heap.IsKeyIter p a i q.l.toArray.size q.ep by rw [List.size_toArray]; exact ht) raw (by rw [List.size_toArray]; omega) fun h' eb => ⟨rfl, I.turned (t' := st.toks) (fun b ob hb e => eb b ob hb e) f0 f1 f3 f4 f5⟩
  self := fun A i st Q E ht h => by
    refine wpAny_pyIter_slot ht.typeIs F.slot_dict_keyiterator_iter (wpAny_call_entry F.slot_dict_keyiterator_iter ht.typeIs F.entry_dict_keyiterator_iter ?_ (F.args_dict_keyiterator_iter_1 _))
    show wpAny _ _ (ret (Value.ref p)) _ _ st
    exact wpAny_pure ⟨_, rfl, "dict_keyiterator", _, ht.typeIs, F.slot_dict_keyiterator_next.lookup, h⟩
theorem turn_vD (p : Addr) (hv : Vals us (q.l.map (·.val))) : Turn P w K tg (ItKD a q us) [p] p (fun i h => h.IsValIter p a i q.l.length q.ep) where
  mem := List.mem_singleton.mpr rfl
  obj := fun i h st b hb => by
    cases List.mem_singleton.mp hb
    obtain ⟨ob, e1, _, e2⟩ := st
    exact ⟨ob, e1, fun v z => by rw [e2] at z; cases z⟩
  keep := fun i h h' st k => st.at fun ob e => k p (List.mem_singleton.mpr rfl) ob e
  item := by
    rintro X rfl rfl rfl hc i pins st σ H E I hf ht ⟨ha, hi⟩
    obtain ⟨_, _, raw⟩ := dct_raw I ha
    obtain ⟨f0, f1, f2, f3, f4, f5⟩ := hf p (List.mem_singleton.mpr rfl)
    have ln : us.length = q.l.length := by rw [hv.length, List.length_map]
    have hi2 : i < q.l.toArray.size := by rw [List.size_toArray]; omega
    obtain ⟨x, hx⟩ : ∃ x, us[i]? = some x := ⟨_, List.getElem?_eq_getElem hi⟩
    obtain ⟨u, hu, ru⟩ := hv.get hx
    have eu : q.l.toArray[i].val = u := by
      rw [List.getElem?_map, List.getElem?_eq_getElem (by simpa using hi2)] at hu
      simpa using hu
    refine wpAny_pyNext_values_item_raw (show st.heap.IsValIter p a i q.l.toArray.size q.ep by rw [List.size_toArray]; exact ht) raw hi2 fun h' ht' sb => ?_
    have I' : Inv X pins σ H { st with heap := h' } := I.turned (t' := st.toks) (fun b ob hb e => (sb.2 b hb).trans e) f0 f1 f3 f4 f5
    obtain ⟨ob, e1, e2, e3⟩ := id ht'
    refine ⟨_, rfl, go_of (s := { st with heap := h' }) e1 e2 e3 (by decide) ⟨x, H, I', by rw [eu]; exact ru, ⟨rfl, hx⟩, by rw [List.size_toArray] at ht'; exact ht', fun b hb => (hf b hb).1⟩⟩
  done := by
    rintro X rfl rfl rfl hc i pins st σ H E I hf ht ⟨ha, hi⟩
    obtain ⟨_, _, raw⟩ := dct_raw I ha
    obtain ⟨f0, f1, f2, f3, f4, f5⟩ := hf p (List.mem_singleton.mpr rfl)
    have ln : us.length = q.l.length := by rw [hv.length, List.length_map]
    exact wpAny_pyNext_values_end_raw (I.ok.hd hc) (show st.heap.IsValIter p a i q.l.toArray.size q.ep by rw [List.size_toArray]; exact ht) raw (by rw [List.size_toArray]; omega) fun h' eb => ⟨rfl, I.turned (t' := st.toks) (fun b ob hb e => eb b ob hb e) f0 f1 f3 f4 f5⟩
  self := fun A i st Q E ht h => wpAny_pyIter_valiter ht h
theorem turn_iD {elts : List Expr} {kk : Nat} {tpos : Pos} (p : Addr) (hv : Vals us (q.l.map (·.key))) (hw : Vals ws (q.l.map (·.val))) : Turn P w K (.Tuple elts kk tpos) (ItID a q us ws) [p] p (fun i h => ∃ ok ov, IsItemIter h p a i q.l.length q.ep ok ov) where
  mem := List.mem_singleton.mpr rfl
  obj := fun i h st b hb => by
    cases List.mem_singleton.mp hb
    obtain ⟨ok, ov, e⟩ := st
    exact ⟨_, e, fun v z => nomatch z⟩
  keep := fun i h h' st k => let ⟨ok, ov, e⟩ := st; ⟨ok, ov, k p (List.mem_singleton.mpr rfl) _ e⟩
  item := by
    rintro X rfl rfl rfl hc i pins st σ H E I hf ht ⟨ha, hi⟩
    obtain ⟨_, _, raw⟩ := dct_raw I ha
    have ln : us.length = q.l.length := by rw [hv.length, List.length_map]
    have lw : ws.length = q.l.length := by rw [hw.length, List.length_map]
    have hi2 : i < q.l.toArray.size := by rw [List.size_toArray]; omega
    obtain ⟨x, hx⟩ : ∃ x, us[i]? = some x := ⟨_, List.getElem?_eq_getElem hi⟩
    obtain ⟨y, hy⟩ : ∃ y, ws[i]? = some y := ⟨_, List.getElem?_eq_getElem (by omega)⟩
    obtain ⟨u, hu, ru⟩ := hv.get hx
    obtain ⟨r, hr, rr⟩ := hw.get hy
    have eu : q.l.toArray[i].key = u := by
      rw [List.getElem?_map, List.getElem?_eq_getElem (by simpa using hi2)] at hu
      simpa using hu
    have er : q.l.toArray[i].val = r := by
      rw [List.getElem?_map, List.getElem?_eq_getElem (by simpa using hi2)] at hr
      simpa using hr
    obtain ⟨ok, ov, he⟩ := ht
    have hlt : p < st.heap.objs.size := Heap.lt_size he
    refine wpAny_pyNext_items_item_raw (show IsItemIter st.heap p a i q.l.toArray.size q.ep ok ov by rw [List.size_toArray]; exact he) raw hi2 fun h' ho hT hz hk => ?_
    refine ⟨_, rfl, wpAny_letOwnedTupleGo_items (s := { st with heap := h' }) ho fun h2 he' sb => ?_⟩
    have hT2 : h2.get? st.heap.objs.size = some { cls := .type "tuple", data := .seq #[q.l.toArray[i].key, q.l.toArray[i].val] } := (sb.2 _ (Nat.ne_of_gt hlt)).trans hT
    have new : ObjOk X.prog X.w (upd H st.heap.objs.size (.tup [x, y])) h2 st.heap.objs.size (.tup [x, y]) :=
      ⟨by show 2 ≤ sizeLine; decide, [q.l.toArray[i].key, q.l.toArray[i].val], .cons (by rw [eu]; exact ru) (.cons (by rw [er]; exact rr) .nil), ⟨_, hT2, rfl, _, rfl⟩⟩
    have I' : Inv X pins σ (upd H st.heap.objs.size (.tup [x, y])) { st with heap := h2 } :=
      I.turnedNew (t' := st.toks) (ch := [p]) (fun b ob hb e => (sb.2 b (by simpa using hb)).trans (hk b ob (by simpa using hb) e)) hf (Nat.le_refl _) new
    refine ⟨.ref st.heap.objs.size, _, I', rfl, ⟨_, x, y, hx, hy, rfl, I.hok.fresh (Nat.le_refl _), rfl⟩, ⟨_, _, by rw [List.size_toArray] at he'; exact he'⟩, fun b hb => ?_⟩
    cases List.mem_singleton.mp hb
    rw [upd_ne (Nat.ne_of_lt hlt)]
    exact (hf p (List.mem_singleton.mpr rfl)).1
  done := by
    rintro X rfl rfl rfl hc i pins st σ H E I hf ht ⟨ha, hi⟩
    obtain ⟨_, _, raw⟩ := dct_raw I ha
    obtain ⟨f0, f1, f2, f3, f4, f5⟩ := hf p (List.mem_singleton.mpr rfl)
    have ln : us.length = q.l.length := by rw [hv.length, List.length_map]
    obtain ⟨ok, ov, he⟩ := ht
    exact wpAny_pyNext_items_end_raw (I.ok.hd hc) (show IsItemIter st.heap p a i q.l.toArray.size q.ep ok ov by rw [List.size_toArray]; exact he) raw (by rw [List.size_toArray]; omega) fun h' eb => ⟨rfl, I.turned (t' := st.toks) (fun b ob hb e => eb b ob hb e) f0 f1 f3 f4 f5⟩
  self := fun A i st Q E ht h => let ⟨_, _, e⟩ := ht; PySem.W.kcp_self e h
end
def iKD (td : TE) : TI := fun σ H R => td σ H fun x H1 => ∃ a q us, x = .ref a ∧ H1 a = some (dictHO a q) ∧ Vals us (q.l.map (·.key)) ∧ R (ItKD a q us) H1
def iVD (td : TE) : TI := fun σ H R => td σ H fun x H1 => ∃ a q us, x = .ref a ∧ H1 a = some (dictHO a q) ∧ Vals us (q.l.map (·.val)) ∧ R (ItKD a q us) H1
def iID (td : TE) : TI := fun σ H R => td σ H fun x H1 => ∃ a q us ws, x = .ref a ∧ H1 a = some (dictHO a q) ∧ Vals us (q.l.map (·.key)) ∧ Vals ws (q.l.map (·.val)) ∧ R (ItID a q us ws) H1
section
variable {X : Cx} {tg e : Expr} {td : TE} {apos cpos : Pos}
theorem pi_kD (he : PE X e td) : PI X tg e (iKD td) := by
  refine ⟨fun pins st σ H R I h => ?_⟩
  refine thn (he.run pins st σ H _ I h) fun u t1 ⟨x, H1, I1, rx, a, q, us, ex, ha, hv, hR⟩ => ?_
  subst ex
  cases rx
  obtain ⟨hs, _, raw⟩ := dct_raw I1 ha
  refine wpAny_pyIter_dict_raw hs raw (pi_one (tk := t1.toks) I1 _ (turn_kD _ hv) ⟨_, Heap.get?_push_size _ rfl, rfl, ?_⟩ hR)
  rw [List.size_toArray] <;> rfl
theorem pi_vD (he : PE X e td) (hb : attributeBase e "values" X.env (eval e X.env) = eval e X.env := by rfl) (hl : (apos.endLine == cpos.line) = true := by rfl) : PI X tg (.Call (.Attribute e "values" apos) [] [] cpos) (iVD td) := by
  refine ⟨fun pins st σ H R I h => ?_⟩
  refine wpAny_Call_method (T := "dict") (id := "dict.values") hb rfl hl F.plainAttrs_dict F.slot_dict_values F.type_dict_values (thn (he.run pins st σ H _ I h) fun u t1 ⟨x, H1, I1, rx, a, q, us, ex, ha, hv, hR⟩ => ?_)
  subst ex
  cases rx
  obtain ⟨hs, _, raw⟩ := dct_raw I1 ha
  obtain ⟨k1, k2⟩ := tyG_is I1 (x := V.ref a) rfl (.inr ⟨rfl, a, q, rfl, ha⟩ : tyG X.K "dict" (.ref a) H1)
  refine ⟨k1, k2, ?_⟩
  have I2 : Inv X pins σ H1 { t1 with heap := t1.heap.push { cls := .type "dict_values", data := .fields #[.ref a] } } := I1.kept (t' := t1.toks) fun b ob z => Heap.get?_push_of_some _ z
  have fin : wpAny (model X.prog X.w) X.A (pyIter (.ref t1.heap.objs.size)) (PIE X pins σ tg R) X.xe { t1 with heap := t1.heap.push { cls := .type "dict_values", data := .fields #[.ref a] } } := by
    refine wpAny_pyIter_values_raw (d := a) ⟨_, Heap.get?_push_size _ rfl, rfl, rfl⟩ (raw.at fun o z => Heap.get?_push_of_some _ z) (pi_one (tk := t1.toks) I2 _ (turn_vD _ hv) ⟨_, Heap.get?_push_size _ rfl, rfl, ?_⟩ hR)
    rw [List.size_toArray] <;> rfl
  show wpAny _ _ (callWith cpos (.builtin "dict.values") [.ref a] [] []) _ X.xe t1
  exact method_meetsIn F.slot_dict_values F.entry_dict_values rfl (PySem.evalArgs_none ⟨rfl, k1, F.args_dict_values_1 _, _, meets_dict_values_raw a hs, ⟨_, _, raw⟩, fin⟩)
theorem pi_iD {elts : List Expr} {kk : Nat} {tpos : Pos} (he : PE X e td) (hb : attributeBase e "items" X.env (eval e X.env) = eval e X.env := by rfl) (hl : (apos.endLine == cpos.line) = true := by rfl) : PI X (.Tuple elts kk tpos) (.Call (.Attribute e "items" apos) [] [] cpos) (iID td) := by
  refine ⟨fun pins st σ H R I h => ?_⟩
  refine wpAny_Call_method (T := "dict") (id := "dict.items") hb rfl hl F.plainAttrs_dict F.slot_dict_items F.type_dict_items (thn (he.run pins st σ H _ I h) fun u t1 ⟨x, H1, I1, rx, a, q, us, ws, ex, ha, hv, hw, hR⟩ => ?_)
  subst ex
  cases rx
  obtain ⟨hs, _, raw⟩ := dct_raw I1 ha
  obtain ⟨k1, k2⟩ := tyG_is I1 (x := V.ref a) rfl (.inr ⟨rfl, a, q, rfl, ha⟩ : tyG X.K "dict" (.ref a) H1)
  refine ⟨k1, k2, ?_⟩
  have I2 : Inv X pins σ H1 { t1 with heap := t1.heap.push { cls := .type "dict_items", data := .fields #[.ref a] } } := I1.kept (t' := t1.toks) fun b ob z => Heap.get?_push_of_some _ z
  have fin : wpAny (model X.prog X.w) X.A (pyIter (.ref t1.heap.objs.size)) (PIE X pins σ (.Tuple elts kk tpos) R) X.xe { t1 with heap := t1.heap.push { cls := .type "dict_items", data := .fields #[.ref a] } } := by
    refine wpAny_pyIter_items_raw (d := a) ⟨_, Heap.get?_push_size _ rfl, rfl, rfl⟩ (raw.at fun o z => Heap.get?_push_of_some _ z) (pi_one (tk := t1.toks) I2 _ (turn_iD _ hv hw) ⟨.none, .none, ?_⟩ hR)
    rw [List.size_toArray]
    exact Heap.get?_push_size _ rfl
  show wpAny _ _ (callWith cpos (.builtin "dict.items") [.ref a] [] []) _ X.xe t1
  exact method_meetsIn F.slot_dict_items F.entry_dict_items rfl (PySem.evalArgs_none ⟨rfl, k1, F.args_dict_items_1 _, _, meets_dict_items_raw a hs, ⟨_, _, raw⟩, fin⟩)
end
section
variable {X : Cx} {T : Tb} {W : Wi} {tg e : Expr} {f : Ex} {apos cpos : Pos}
def walkI (g : List (D × D) → List D) (f : Ex) : Ix := fun s => (f s).bind fun d s => match d with
  | .dct kvs => .ok (fixN (g kvs)) s
  | .cel n => (match s.sto[n]? with
    | some (.M kvs) => .ok (fixN (g kvs)) (lockS n kvs s)
    | some (.K kvs) => .ok (fixN (g kvs)) s
    | _ => .bad)
  | _ => .bad
def kdI (f : Ex) : Ix := walkI (fun kvs => kvs.map (·.1)) f
def vdI (f : Ex) : Ix := walkI (fun kvs => kvs.map (·.2)) f
def idI (f : Ex) : Ix := walkI (fun kvs => kvs.map fun p => .tup [p.1, p.2]) f
/-- the dict that a walk goes over: it stays -/
theorem walk_at {w : World} {K : PySem.W.Frag} {σ : Sg} {H : Hp} {G : Wd} {s : S} {v : V} {d : D} {g : List (D × D) → List D} {nx : Nx} {s' : S} (J : StR w K T σ H G s) (r : Rep w K H G v d) (e : walkI g (fun s => .ok d s) s = .ok nx s') :
    ∃ a es kvs, v = .ref a ∧ H a = some (dictHO a es) ∧ RepE w K H G es.l kvs ∧ nx = fixN (g kvs) ∧ StR w K T σ H G s' ∧ Stp σ H G s σ H G s' ∧ ¬ Wrt σ G s' a := by
  cases d with
  | dct kvs =>
    cases r with
    | @dct a es _ h1 h2 h3 h4 =>
      cases e
      exact ⟨a, es, kvs, rfl, h2, h3, rfl, J, Stp.refl, fun z => let ⟨_, _, n⟩ := J.tch z.tch; n h1⟩
  | cel n =>
    cases r with
    | cel hn =>
      have e : (match s.sto[n]? with
        | some (.M kvs) => R.ok (fixN (g kvs)) (lockS n kvs s)
        | some (.K kvs) => R.ok (fixN (g kvs)) s
        | _ => R.bad) = .ok nx s' := e
      split at e
      · rename_i kvs h
        cases e
        obtain ⟨⟨es, h1, h2, h3⟩, _⟩ := J.sto n _ h
        have J2 := J.lock h
        have hl : n < s.sto.length := (List.getElem?_eq_some_iff.mp h).1
        exact ⟨_, es, kvs, rfl, h1, h2, rfl, J2, Stp.lock h, J2.held hn (kvs := kvs) (List.getElem?_set_self hl)⟩
      · rename_i kvs h
        cases e
        obtain ⟨⟨es, h1, h2, h3⟩, _⟩ := J.sto n _ h
        exact ⟨_, es, kvs, rfl, h1, h2, rfl, J, Stp.refl, J.held hn h⟩
      · cases e
  | _ => cases e
theorem walk_bind {g : List (D × D) → List D} {s : S} {P : Nx → S → Prop} {E : Nat → D → S → Prop} (h : (walkI g f s).holds P E) : ((f s).bind fun d s => walkI g (fun s => .ok d s) s).holds P E := h
theorem it_kD {w : World} {K : PySem.W.Frag} {a : Addr} {q : DE} {us : List V} {ds : List D} {σ : Sg} {H : Hp} {G : Wd} {s : S} (hF : ¬ Wrt σ G s a) (I : StR w K T σ H G s) (ha : H a = some (dictHO a q)) (r : RepL w K H G us ds) : ItOk w K T (ItKD a q us) (fixN ds) σ H G s := by
  intro i σ1 H1 G1 s1 b J
  have h1 : H1 a = some (dictHO a q) := b.keep a _ ha hF
  have r1 := r.kp (I.kp b)
  have z := r1.at' i
  unfold fixN
  cases e : ds[i]? with
  | none => rw [e] at z; exact ⟨h1, z⟩
  | some d =>
    rw [e] at z
    obtain ⟨v, hv, rv⟩ := z
    refine ⟨⟨h1, (List.getElem?_eq_some_iff.mp hv).1⟩, fun x H2 ⟨e1, e2⟩ => ?_⟩
    subst e1
    rw [hv] at e2
    cases e2
    exact ⟨G1, Stp.refl, J, rv⟩
theorem it_iD {w : World} {K : PySem.W.Frag} {a : Addr} {q : DE} {us ws : List V} {kvs : List (D × D)} {σ : Sg} {H : Hp} {G : Wd} {s : S} (hF : ¬ Wrt σ G s a) (I : StR w K T σ H G s) (ha : H a = some (dictHO a q)) (r : RepL w K H G us (kvs.map (·.1))) (r2 : RepL w K H G ws (kvs.map (·.2))) :
    ItOk w K T (ItID a q us ws) (fixN (kvs.map fun p => .tup [p.1, p.2])) σ H G s := by
  intro i σ1 H1 G1 s1 b J
  have h1 : H1 a = some (dictHO a q) := b.keep a _ ha hF
  have z := (r.kp (I.kp b)).at' i
  have z2 := (r2.kp (I.kp b)).at' i
  unfold fixN
  rw [List.getElem?_map] at z z2 ⊢
  cases e : kvs[i]? with
  | none => rw [e] at z; exact ⟨h1, z⟩
  | some d =>
    rw [e] at z z2
    obtain ⟨v, hv, rv⟩ := z
    obtain ⟨v2, hv2, rv2⟩ := z2
    refine ⟨⟨h1, (List.getElem?_eq_some_iff.mp hv).1⟩, fun x H2 ⟨p, y, y2, e1, e2, e3, e4, e5⟩ => ?_⟩
    subst e3 e5
    rw [hv] at e1
    rw [hv2] at e2
    cases e1
    cases e2
    have k := J.kp (Stp.fresh (o := HO.tup [v, v2]) e4)
    exact ⟨_, Stp.fresh e4, J.fresh e4, .tup (.inl (.inl upd_same)) (.cons (rv.kp k) (.cons (rv2.kp k) .nil))⟩
theorem walk_no {g : List (D × D) → List D} {d : D} {s s' : S} {c : Nat} {x : D} (h : walkI g (fun s => .ok d s) s = .exc c x s') : False := by
  have h : (match d with
  | .dct kvs => R.ok (fixN (g kvs)) s
  | .cel n => (match s.sto[n]? with
    | some (.M kvs) => R.ok (fixN (g kvs)) (lockS n kvs s)
    | some (.K kvs) => R.ok (fixN (g kvs)) s
    | _ => R.bad)
  | _ => R.bad) = R.exc c x s' := h
  split at h
  · cases h
  · split at h <;> cases h
  · cases h
theorem si_kd (h : SV X T W e f) : SI X T W tg e (kdI f) := by
  refine PI.imp (pi_kD h) fun σ H Q ⟨G, s, I, q⟩ => ?_
  refine tV_bind I (walk_bind q) fun d s1 H1 G1 v b J r q => ?_
  cases hw : walkI (fun kvs => kvs.map (·.1)) (fun s => .ok d s) s1 with
  | ok nx s2 =>
    rw [hw] at q
    obtain ⟨a, es, kvs, rfl, h1, h2, rfl, J2, b2, nw⟩ := walk_at J r hw
    obtain ⟨us, k1, k2⟩ := h2.keysV
    exact ⟨a, es, us, rfl, h1, k1, q _ _ _ (b.trans b2) J2 (it_kD nw J2 h1 k2)⟩
  | exc c d s => exact (walk_no hw).elim
  | bad => rw [hw] at q; exact q.elim
theorem si_vd (h : SV X T W e f) (hb : attributeBase e "values" X.env (eval e X.env) = eval e X.env := by rfl) (hl : (apos.endLine == cpos.line) = true := by rfl) : SI X T W tg (.Call (.Attribute e "values" apos) [] [] cpos) (vdI f) := by
  refine PI.imp (pi_vD h hb hl) fun σ H Q ⟨G, s, I, q⟩ => ?_
  refine tV_bind I (walk_bind q) fun d s1 H1 G1 v b J r q => ?_
  cases hw : walkI (fun kvs => kvs.map (·.2)) (fun s => .ok d s) s1 with
  | ok nx s2 =>
    rw [hw] at q
    obtain ⟨a, es, kvs, rfl, h1, h2, rfl, J2, b2, nw⟩ := walk_at J r hw
    obtain ⟨us, k1, k2⟩ := h2.valsV
    exact ⟨a, es, us, rfl, h1, k1, q _ _ _ (b.trans b2) J2 (it_kD nw J2 h1 k2)⟩
  | exc c d s => exact (walk_no hw).elim
  | bad => rw [hw] at q; exact q.elim
theorem si_id {elts : List Expr} {kk : Nat} {tpos : Pos} (h : SV X T W e f) (hb : attributeBase e "items" X.env (eval e X.env) = eval e X.env := by rfl) (hl : (apos.endLine == cpos.line) = true := by rfl) : SI X T W (.Tuple elts kk tpos) (.Call (.Attribute e "items" apos) [] [] cpos) (idI f) := by
  refine PI.imp (pi_iD h hb hl) fun σ H Q ⟨G, s, I, q⟩ => ?_
  refine tV_bind I (walk_bind q) fun d s1 H1 G1 v b J r q => ?_
  cases hw : walkI (fun kvs => kvs.map fun p => .tup [p.1, p.2]) (fun s => .ok d s) s1 with
  | ok nx s2 =>
    rw [hw] at q
    obtain ⟨a, es, kvs, rfl, h1, h2, rfl, J2, b2, nw⟩ := walk_at J r hw
    obtain ⟨us, k1, k2⟩ := h2.keysV
    obtain ⟨ws, k3, k4⟩ := h2.valsV
    exact ⟨a, es, us, ws, rfl, h1, k1, k3, q _ _ _ (b.trans b2) J2 (it_iD nw J2 h1 k2 k4)⟩
  | exc c d s => exact (walk_no hw).elim
  | bad => rw [hw] at q; exact q.elim
/-- whatever is walked over: a list, a tuple, a text, the script, a dict's keys -/
def anyI (f : Ex) : Ix := fun s => match f s with
  | .ok (.tup xs) s' => tupI (fun s => .ok (.tup xs) s) s'
  | .ok (.str xs) s' => strI (fun s => .ok (.str xs) s) s'
  | .ok (.dct xs) s' => kdI (fun s => .ok (.dct xs) s) s'
  | .ok (.cel n) s' => (match s'.sto[n]? with
    | some (.L _) => seqI (fun s => .ok (.cel n) s) s'
    | _ => kdI (fun s => .ok (.cel n) s) s')
  | .ok d s' => seqI (fun s => .ok d s) s'
  | _ => .bad
theorem si_any (h : SV X T W e f) : SI X T W tg e (anyI f) := by
  have eqv : ∀ (k : Ex → Ix), (∀ f s d s', f s = .ok d s' → k f s = k (fun s => .ok d s) s') → SI X T W tg e (k f) → ∀ pins st σ H R, Inv X pins σ H st → ∀ G s d s', StR X.w X.K T σ H G s → f s = .ok d s' → ((k (fun s => .ok d s) s').holds (fun nx s' => ∀ H' G' J, Stp σ H G s σ H' G' s' → StR X.w X.K T σ H' G' s' → ItOk X.w X.K T J nx σ H' G' s' → R J H') (PX X.w X.K T W σ H G s)) →
      wpAny (model X.prog X.w) X.A (eval e X.env) (fun v st' => wpAny (model X.prog X.w) X.A (pyIter v) (PIE X pins σ tg R) X.xe st') X.xe st := fun k hk hs pins st σ H R I G s d s' J e q => hs.run pins st σ H R I ⟨G, s, J, by rw [hk f s d s' e]; exact q⟩
  refine ⟨fun pins st σ H R I ⟨G, s, J, q⟩ => ?_⟩
  have eT : ∀ f s d s', f s = .ok d s' → tupI f s = tupI (fun s => .ok d s) s' := fun f s d s' e => by simp only [tupI, e]
  have eS : ∀ f s d s', f s = .ok d s' → strI f s = strI (fun s => .ok d s) s' := fun f s d s' e => by simp only [strI, e]
  have eQ : ∀ f s d s', f s = .ok d s' → seqI f s = seqI (fun s => .ok d s) s' := fun f s d s' e => by simp only [seqI, e]
  have eK : ∀ f s d s', f s = .ok d s' → kdI f s = kdI (fun s => .ok d s) s' := fun f s d s' e => by simp only [kdI, walkI, e]
  unfold anyI at q
  split at q
  · rename_i e1; exact eqv tupI eT (si_tup h) pins st σ H R I G s _ _ J e1 q
  · rename_i e1; exact eqv strI eS (si_str h) pins st σ H R I G s _ _ J e1 q
  · rename_i e1; exact eqv kdI eK (si_kd h) pins st σ H R I G s _ _ J e1 q
  · rename_i e1
    split at q
    · exact eqv seqI eQ (si_seq h) pins st σ H R I G s _ _ J e1 q
    · exact eqv kdI eK (si_kd h) pins st σ H R I G s _ _ J e1 q
  · rename_i e1; exact eqv seqI eQ (si_seq h) pins st σ H R I G s _ _ J e1 q
  · exact q.elim
end
end G

set_option Elab.async false
set_option linter.all false
set_option maxRecDepth 100000
set_option maxHeartbeats 4000000
/-! G: dicts written, dicts by comprehensions -/
namespace G
open PySem PySem.Spec PyProof.Rows L2

theorem dict_new {P : Program} {w : World} {H' : Hp} {h : Heap} (hb : sysModules < h.objs.size) : ObjOk P w H' (h.push { cls := .type "dict", data := .dict #[] }) h.objs.size (dictHO h.objs.size ⟨[], 0⟩) := by
  have e := Heap.get?_push_size (o := ({ cls := .type "dict", data := .dict #[] } : Obj)) h rfl
  refine ⟨⟨Nat.zero_le _, beq_eq_false_iff_ne.mpr (Ne.symm (Nat.ne_of_lt hb)), _, e, ⟨rfl, rfl, rfl⟩, rfl⟩, ⟨_, e⟩, fun _ _ ⟨p1, p2, o', p3, p4⟩ k => ⟨p1, p2, o', k _ p3, p4⟩⟩
/-- pairs told by value -/
inductive PrR (w : World) (K : PySem.W.Frag) (H : Hp) (G : Wd) : List (V × V) → List (D × D) → Prop
  | nil : PrR w K H G [] []
  | cons {x y : V} {k d : D} {ps : List (V × V)} {kds : List (D × D)} : Rep w K H G x k → Rep w K H G y d → PrR w K H G ps kds → PrR w K H G ((x, y) :: ps) ((k, d) :: kds)
theorem PrR.kp {w : World} {K : PySem.W.Frag} {H H' : Hp} {G G' : Wd} (k : Kp H G H' G') : ∀ {ps : List (V × V)} {kds : List (D × D)}, PrR w K H G ps kds → PrR w K H' G' ps kds
  | _, _, .nil => .nil
  | _, _, .cons a b c => .cons (a.kp k) (b.kp k) (c.kp k)
/-- stored one after another -/
def mergeD : List (D × D) → List (D × D) → Option (List (D × D))
  | acc, [] => some acc
  | acc, (k, d) :: r => if dctOk acc k && Nat.ble (putD k d acc).length line then mergeD (putD k d acc) r else none
theorem kp_dict {H : Hp} {G : Wd} {a : Addr} {q : DE} {o : HO} (h0 : H a = some (dictHO a q)) (hF : ¬ G.F a) : Kp H G (upd H a o) G := kp_free h0 trivial hF
theorem store_all {X : Cx} {pins : List (Addr × Obj)} {σ : Sg} {G : Wd} {a : Addr} {E : Value → Shared → Prop} (hu : X.A.units + 9 < cLine) (hF : ¬ G.F a) : ∀ (vs : List (Value × Value)) (ps : List (V × V)) (kds acc kvs : List (D × D)) (q : DE) (H : Hp) (st : Shared) (Q : PUnit → Shared → Prop), VV ps vs → PrR X.w X.K H G ps kds →
    Inv X pins σ H st → H a = some (dictHO a q) → RepE X.w X.K H G q.l acc → (acc.map (·.1)).Nodup → mergeD acc kds = some kvs → (∀ q' st', Inv X pins σ (upd H a (dictHO a q')) st' → RepE X.w X.K (upd H a (dictHO a q')) G q'.l kvs → (kvs.map (·.1)).Nodup → Q PUnit.unit st') →
    wpAny (model X.prog X.w) X.A (forIn vs PUnit.unit fun (x : Value × Value) (_ : PUnit) => (do dictSet a x.1 x.2; pure (ForInStep.yield PUnit.unit) : Sem (ForInStep PUnit))) Q E st
  | [], _, _, acc, kvs, q, H, st, Q, .nil, .nil, I, ha, re, nd, hm, h => by
    cases hm
    rw [List.forIn_nil]
    have e : upd H a (dictHO a q) = H := by
      funext b
      unfold upd
      split
      · rename_i z; rw [z, ha]
      · rfl
    refine wpAny_pure (h q st ?_ ?_ nd)
    · rw [e]; exact I
    · rw [e]; exact re
  | (u, r) :: vs, _, _, acc, kvs, q, H, st, Q, .cons ⟨e1, e2⟩ t, .cons (k := k) (d := d) r1 r2 r3, I, ha, re, nd, hm, h => by
    unfold mergeD at hm
    split at hm
    · rename_i ok
      rw [Bool.and_eq_true, Nat.ble_eq] at ok
      rw [List.forIn_cons]
      refine wpAny_bind (wpAny_bind (dct_dictSet hu I ha re nd ok.1 (by rw [line_eq]; exact ok.2) r1 e1 r2 e2 fun q' st' I' re' => wpAny_pure ?_))
      have kp := kp_dict (o := dictHO a q') ha hF
      refine store_all hu hF vs _ _ _ kvs q' _ st' Q t (r3.kp kp) I' upd_same (re'.kp kp) (putD_nodup nd) hm fun q2 st2 I2 re2 nd2 => ?_
      rw [upd_upd] at I2 re2
      exact h q2 st2 I2 re2 nd2
    · cases hm
def tDispD (w : World) (K : PySem.W.Frag) (trs : List (TE × TE)) : TE := fun σ H Q => ∀ p, H p = none → tPairs trs σ (upd H p (dictHO p ⟨[], 0⟩)) fun ps H2 => H2 p = some (dictHO p ⟨[], 0⟩) ∧ ∃ G kds kvs, ¬ G.F p ∧ PrR w K H2 G ps kds ∧ mergeD [] kds = some kvs ∧
  ∀ q, RepE w K (upd H2 p (dictHO p q)) G q.l kvs → (kvs.map (·.1)).Nodup → Q (.ref p) (upd H2 p (dictHO p q))
section
variable {X : Cx} {T : Tb} {W : Wi} {pos : Pos}
theorem pe_dispD {keys : List (Option Expr)} {values : List Expr} {trs : List (TE × TE)} (hu : X.A.units + 9 < cLine) (h : PPs X pos keys values trs) (hall : keys.all (·.isSome) = true) (hl : keys.length = values.length) (h0 : keys ≠ []) (h15 : keys.length ≤ 15) : PE X (.Dict keys values pos) (tDispD X.w X.K trs) := by
  refine ⟨fun pins st σ H Q I q => ?_⟩
  have hn := pairTrees_length keys values X.env pos hall hl
  have hne : pairTrees keys values X.env pos ≠ [] := fun e => by
    rw [e] at hn
    exact h0 (List.length_eq_zero_iff.mp hn.symm)
  rw [arm_eval_Dict, zip_pairTrees keys values X.env pos hall hl, dictDisplay_pairs _ hne (by omega)]
  refine wpAny_bind (wpAny_standAt (wpAny_bind ?_))
  unfold subDict
  refine wpAny_bind (wpAny_alloc ?_)
  refine wpAny_bind (wpAny_holding ?_)
  rw [if_pos (by omega)]
  have hf := I.hok.fresh (Nat.le_refl st.heap.objs.size)
  have I1 := I.laid (a := st.heap.objs.size) (o := dictHO st.heap.objs.size ⟨[], 0⟩) (h' := st.heap.push { cls := .type "dict", data := .dict #[] }) (t' := st.toks) (fun _ _ z => Heap.get?_push_of_some _ z) (Nat.le_refl _) (dict_new I.big)
  refine wpAny_bind (thn (h.run pins _ σ _ _ I1 (q _ hf)) fun vs t1 ⟨ps, H2, I2, rel, e, G, kds, kvs, hF, rp, hm, q2⟩ => ?_)
  refine wpAny_holding ?_
  refine wpAny_bind (store_all hu hF vs ps kds [] kvs ⟨[], 0⟩ H2 t1 _ rel rp I2 e .nil (by simp) hm fun q' st' I' re nd => ?_)
  exact wpAny_pure (wpAny_pure (wpAny_pure ⟨.ref _, _, I', rfl, q2 q' re nd⟩))
/-- pairs, from the left -/
abbrev Qx := S → R (List (D × D))
def tPr (w : World) (K : PySem.W.Frag) (T : Tb) (W : Wi) (f : Qx) (σ : Sg) (H : Hp) (Q : List (V × V) → Hp → Prop) : Prop := ∃ G s, StR w K T σ H G s ∧ (f s).holds (fun kds s' => ∀ H' G' ps, Stp σ H G s σ H' G' s' → StR w K T σ H' G' s' → PrR w K H' G' ps kds → Q ps H') (PX w K T W σ H G s)
structure SPr (X : Cx) (T : Tb) (W : Wi) (pos : Pos) (keys : List (Option Expr)) (values : List Expr) (f : Qx) : Prop where
  ok : ∃ trs, PPs X pos keys values trs ∧ ∀ σ H Q, tPr X.w X.K T W f σ H Q → tPairs trs σ H Q
def nilQ : Qx := fun s => .ok [] s
def consQ (fk fv : Ex) (g : Qx) : Qx := fun s => (fk s).bind fun k s => (fv s).bind fun d s => (g s).bind fun r s => .ok ((k, d) :: r) s
theorem spr_nil : SPr X T W pos [] [] nilQ := ⟨[], pps_nil, fun σ H Q ⟨G, s, I, q⟩ => q _ _ _ Stp.refl I .nil⟩
theorem spr_cons {k v : Expr} {ks : List (Option Expr)} {vs : List Expr} {fk fv : Ex} {g : Qx} (hk : SV X T W k fk) (hv : SV X T W v fv) (hr : SPr X T W pos ks vs g) : SPr X T W pos (some k :: ks) (v :: vs) (consQ fk fv g) := by
  obtain ⟨trs, h1, h2⟩ := hr.ok
  refine ⟨(tV X.w X.K T W fk, tV X.w X.K T W fv) :: trs, pps_cons hk hv h1, fun σ H Q ⟨G, s, I, q⟩ => ?_⟩
  refine tV_bind I q fun d1 s1 H1 G1 x b1 J1 r1 q => ?_
  refine tV_bind J1 (R.holds_mono q (fun _ _ p => p) fun _ _ _ p => PX.tr b1 p) fun d2 s2 H2 G2 y b2 J2 r2 q => ?_
  refine h2 σ H2 _ ⟨G2, s2, J2, ?_⟩
  cases e : g s2 with
  | ok kds s3 =>
    rw [e] at q
    intro H3 G3 ps b3 J3 rp
    exact q _ _ _ ((b1.trans b2).trans b3) J3 (.cons ((r1.kp (J1.kp b2)).kp (J2.kp b3)) (r2.kp (J2.kp b3)) rp)
  | exc c d s3 => rw [e] at q; exact PX.tr b2 q
  | bad => rw [e] at q; exact q
def dispF (f : Qx) : Fx := fun s => (f s).bind fun kds s => match mergeD [] kds with
  | some kvs => .ok (.M kvs) s
  | none => .bad
theorem sf_disp {keys : List (Option Expr)} {values : List Expr} {f : Qx} (hu : X.A.units + 9 < cLine) (h : SPr X T W pos keys values f) (hall : keys.all (·.isSome) = true := by rfl) (hl : keys.length = values.length := by rfl) (h0 : keys ≠ [] := by simp) (h15 : keys.length ≤ 15 := by decide) : SF X T W (.Dict keys values pos) (dispF f) := by
  obtain ⟨trs, h1, h2⟩ := h.ok
  refine PE.imp (pe_dispD hu h1 hall hl h0 h15) fun σ H Q ⟨G, s, I, q⟩ p hp => ?_
  have b0 : Stp σ H G s σ (upd H p (dictHO p ⟨[], 0⟩)) G s := Stp.fresh0 hp
  have I0 : StR X.w X.K T σ (upd H p (dictHO p ⟨[], 0⟩)) G s := I.fresh0 hp
  have nT : ¬ Tch σ G s p := fun z => by
    obtain ⟨c, z, _⟩ := I.tch z
    obtain ⟨o, z⟩ := z.some
    rw [hp] at z; cases z
  have nF : ¬ G.F p := fun z => by
    obtain ⟨o, z⟩ := I.frs p z
    rw [hp] at z; cases z
  refine h2 σ _ _ ⟨G, s, I0, ?_⟩
  unfold dispF at q
  cases e : f s with
  | exc c d s1 => rw [e] at q; exact PX.tr b0 q
  | bad => rw [e] at q; exact q
  | ok kds s1 =>
    rw [e] at q
    intro H1 G1 ps b1 J1 rp
    have e1 : H1 p = some (dictHO p ⟨[], 0⟩) := b1.keep p _ upd_same fun z => nT z.tch
    have nF1 : ¬ G1.F p := fun z => by
      rcases b1.nf p z with z | z | z
      · exact nF z
      · rw [upd_same] at z; cases z
      · exact nT z
    have nT1 : ¬ Tch σ G1 s1 p := fun z => by
      rcases b1.tc p z with z | z
      · exact nT z
      · rw [upd_same] at z; cases z
    refine ⟨e1, G1, kds, ?_⟩
    cases hm : mergeD [] kds with
    | none =>
      have q : (match mergeD [] kds with
        | some kvs => R.ok (Co.M kvs) s1
        | none => .bad).holds (PF X.w X.K T Q σ H G s) (PX X.w X.K T W σ H G s) := q
      rw [hm] at q
      exact q.elim
    | some kvs =>
      have q : (match mergeD [] kds with
        | some kvs => R.ok (Co.M kvs) s1
        | none => .bad).holds (PF X.w X.K T Q σ H G s) (PX X.w X.K T W σ H G s) := q
      rw [hm] at q
      refine ⟨kvs, nF1, rp, rfl, fun q' re nd => ?_⟩
      exact q _ _ _ ((b0.trans b1).free hp e1) (J1.free e1 trivial nF1 nT1) ⟨q', upd_same, re, nd⟩ hp nF1 nT1
def emptyF : Fx := fun s => .ok (.M []) s
theorem sf_empty : SF X T W (.Dict [] [] pos) emptyF := by
  refine ⟨fun pins st σ H Q I ⟨G, s, J, q⟩ => ?_⟩
  have hf := I.hok.fresh (Nat.le_refl st.heap.objs.size)
  have I1 := I.laid (a := st.heap.objs.size) (o := dictHO st.heap.objs.size ⟨[], 0⟩) (h' := st.heap.push { cls := .type "dict", data := .dict #[] }) (t' := st.toks) (fun _ _ z => Heap.get?_push_of_some _ z) (Nat.le_refl _) (dict_new I.big)
  refine wpAny_Dict_empty ⟨.ref st.heap.objs.size, _, I1, rfl, ?_⟩
  exact pf_new (c := .M []) J Stp.refl J hf (fun k => ⟨⟨[], 0⟩, upd_same, .nil, by simp⟩) q
end
end G

set_option Elab.async false
set_option linter.all false
set_option maxRecDepth 100000
set_option maxHeartbeats 4000000
/-! G: dicts by comprehensions -/
namespace G
open PySem PySem.Spec PyProof.Rows L2

/-- {k: v for target in iter if ..}: P the new dict; Pt: what a store is to reach -/
def tDcG (Pt : Addr → V → V → Hp → (Hp → Prop) → Prop) (wi : TI) (g : TG) (tt : TT) (tk tv : TE) (vs : List Nat) : TE := fun σ H Q => wi σ H fun J H1 => ∀ P, H1 P = none → ∃ W : Nat → Nat → Hp → Prop, (∃ m, W 0 m (upd H1 P (dictHO P ⟨[], 0⟩))) ∧ ∀ i m H, W i m H →
  (J.stop i H ∧ Q (.ref P) H) ∨ (J.go i H ∧ ∃ N : Hp → Prop, (∀ H', N H' → ∃ m', m' < m ∧ W (i + 1) m' H') ∧ ∀ x H', J.yld i H x H' → g x (wipe σ vs) H' fun σ2 H2 => wipe σ2 vs = wipe σ vs ∧ tt σ2 H2 fun b H3 =>
    if b = true then tk σ2 H3 fun y H4 => tv σ2 H4 fun z H5 => Pt P y z H5 N else N H3)
section
variable {X : Cx}
theorem dcG_core {Pt : Addr → V → V → Hp → (Hp → Prop) → Prop} {pins : List (Addr × Obj)} {st : Shared} {σ : Sg} {H : Hp} {Q : VK} {kx vx tg iter : Expr} {ifs : List Expr} {scope : Scope} {own : List (Str × Nat)} {pos pos' : Pos} {wi : TI} {g : TG} {tt : TT} {tk tv : TE} {use : Option (Value → Sem Unit)} {Qf : Value → Shared → Prop}
    (hPt : ∀ (Y : Cx) (pns : List (Addr × Obj)) (t : Shared) (τ : Sg) (Hz : Hp) (P : Addr) (y z : V) (u r : Value) (N : Hp → Prop), Y.prog = X.prog → Y.w = X.w → Y.K = X.K → Y.A = X.A → L2.Inv Y pns τ Hz t → RelV y u → RelV z r → Pt P y z Hz N → wpAny (model X.prog X.w) X.A (dictSet P u r) (fun _ t' => ∃ Hz', L2.Inv Y pns τ Hz' t' ∧ N Hz') (fun _ _ => False) t)
    (hc : X.calm = true) (hN : X.N.Nodup) (I : Inv X pins σ H st) (hi : PI X tg iter wi) (ok : BlkOk X.N X.env.scope scope own)
    (hg : ∀ (t : Shared) (H : Hp) (C : Addr) (cl : List (Str × Addr)) (fp : List Addr), PG (X.blk t H scope (compEnvC scope cl C X.env) fp) tg g) (ht : ∀ (t : Shared) (H : Hp) (C : Addr) (cl : List (Str × Addr)) (fp : List Addr), PTs (X.blk t H scope (compEnvC scope cl C X.env) fp) ifs tt)
    (hk : ∀ (t : Shared) (H : Hp) (C : Addr) (cl : List (Str × Addr)) (fp : List Addr), PE (X.blk t H scope (compEnvC scope cl C X.env) fp) kx tk)
    (he : ∀ (t : Shared) (H : Hp) (C : Addr) (cl : List (Str × Addr)) (fp : List Addr), PE (X.blk t H scope (compEnvC scope cl C X.env) fp) vx tv) (hs : ∀ x, foldedSetIterable iter X.env x = pure x)
    (h : tDcG Pt wi g tt tk tv (own.map (·.2)) σ H Q)
    (hRR : ∀ P C t m H', Inv X pins σ H' t → Q (.ref P) H' → t.heap.Ns C m → FpOk X pins H' C → compPost (model X.prog X.w) X.A X.xe use Qf (.ref P) C (.ok .next) t) :
    wpAny (model X.prog X.w) X.A (comprehension (.DictComp kx vx [⟨tg, iter, ifs, 0⟩] scope pos) scope X.env pos' newDict false (eval iter X.env) use) Qf X.xe st := by
  have cells : ∀ y ∈ scope.names, y.2 = .free → ∃ c, X.env.cells.lookup y.1 = some c := fun y hy e => (ok.free y hy e).elim (fun k => I.ok.has _ (.inl k)) (fun k => I.ok.has _ (.inr k))
  refine wpAny_comprehension_free (use := use) rfl hs (closure_ok cells) ok.kind (fun y hy e => by rw [ok.uniq y hy, e]) (thn (hi.run pins st σ H _ I h) fun xv t1 hx => thn hx fun itv t2 q2 => ?_)
  obtain ⟨p, fp, tn, J, Ha, e, I2, Tn, st2, f2, q⟩ := q2
  subst e
  refine wpAny_newObj_type (newEnv_comp ?_)
  generalize hP : t2.heap.objs.size = P
  have hPn : Ha P = none := I2.hok.fresh (Nat.le_of_eq hP)
  obtain ⟨W, ⟨m0, w0⟩, turn⟩ := q P hPn
  generalize ht3 : ({ t2 with heap := t2.heap.push { cls := .type "dict", data := .dict #[] } } : Shared) = t3
  have I3 : Inv X pins σ (upd Ha P (dictHO P ⟨[], 0⟩)) t3 := by
    rw [← ht3]
    refine I2.laid (t' := t2.toks) (fun b o z => Heap.get?_push_of_some _ z) (Nat.le_of_eq hP) ?_
    rw [← hP]
    exact dict_new I2.big
  have e3 : t3.heap = t2.heap.push { cls := .type "dict", data := .dict #[] } := by rw [← ht3]
  have f3 : ∀ b ∈ fp, FpOk X pins (upd Ha P (dictHO P ⟨[], 0⟩)) b ∧ b < t3.heap.objs.size := fun b hb => by
    have lt : b < t2.heap.objs.size := by
      obtain ⟨o, e, _⟩ := Tn.obj _ _ st2 b hb
      exact Heap.lt_size e
    refine ⟨⟨?_, (f2 b hb).2⟩, by rw [e3, Heap.size_push]; exact Nat.lt_succ_of_lt lt⟩
    rw [upd_ne (by rw [← hP]; exact Nat.ne_of_lt lt)]
    exact (f2 b hb).1
  have st3 : tn 0 t3.heap := Tn.keep _ _ _ st2 fun b _ o z => by rw [e3]; exact Heap.get?_push_of_some _ z
  have I4 := block_start I3 ok hN f3
  have rg := hg t3 (upd Ha P (dictHO P ⟨[], 0⟩)) t3.heap.objs.size (cellsFrom (t3.heap.objs.size + 1) scope.names (cloFrom X.env.cells scope.names [])) fp
  have rt := ht t3 (upd Ha P (dictHO P ⟨[], 0⟩)) t3.heap.objs.size (cellsFrom (t3.heap.objs.size + 1) scope.names (cloFrom X.env.cells scope.names [])) fp
  have rk := hk t3 (upd Ha P (dictHO P ⟨[], 0⟩)) t3.heap.objs.size (cellsFrom (t3.heap.objs.size + 1) scope.names (cloFrom X.env.cells scope.names [])) fp
  have re := he t3 (upd Ha P (dictHO P ⟨[], 0⟩)) t3.heap.objs.size (cellsFrom (t3.heap.objs.size + 1) scope.names (cloFrom X.env.cells scope.names [])) fp
  show codeAny _ _ (.compStart (.DictComp kx vx [⟨tg, iter, ifs, 0⟩] scope pos) 0 (.ref p) (.ref P) (compEnvC scope (cellsFrom (t3.heap.objs.size + 1) scope.names (cloFrom X.env.cells scope.names [])) t3.heap.objs.size X.env)) (compPost (model X.prog X.w) X.A X.xe use Qf (.ref P) t3.heap.objs.size) { t3 with heap := pushCells (t3.heap.push { cls := .type "dict", data := .dict #[] }) scope.names }
  have fpn : ∀ b ∈ fp, (upd Ha P (dictHO P ⟨[], 0⟩)) b = none := fun b hb => (f3 b hb).1.1
  generalize hce : compEnvC scope (cellsFrom (t3.heap.objs.size + 1) scope.names (cloFrom X.env.cells scope.names [])) t3.heap.objs.size X.env = cv at I4 rg rt rk re ⊢
  have cvL : cv.locals = t3.heap.objs.size := by subst hce; rfl
  generalize hHb : upd Ha P (dictHO P ⟨[], 0⟩) = Hb at I3 I4 rg rt rk re w0 fpn f3
  generalize ht4 : ({ t3 with heap := pushCells (t3.heap.push { cls := .type "dict", data := .dict #[] }) scope.names } : Shared) = t4 at I4 ⊢
  have st4 : tn 0 t4.heap := Tn.keep _ _ _ st3 fun b _ o z => by rw [← ht4]; exact pushCells_keeps _ _ _ _ (Heap.get?_push_of_some _ z)
  have stay : ∀ {τ : Sg} {H' : Hp} {t : Shared}, Inv (X.blk t3 Hb scope cv fp) [] τ H' t → (∀ b ∈ fp, H' b = none) → ∀ b ∈ fp, FpOk (X.blk t3 Hb scope cv fp) [] H' b := fun {τ H' t} I' hn b hb =>
    ⟨hn b hb, (I'.ok.exf b hb).1, I'.ok.exfs b hb, .inl hb, fun x c z => (I'.ok.exf b hb).2 x c z, fun z hz => absurd (show z ∈ ([] : List (Addr × Obj)) ++ [] from hz) (by simp)⟩
  have loop : codeAny (model X.prog X.w) X.A (.compLoop (.DictComp kx vx [⟨tg, iter, ifs, 0⟩] scope pos) 0 (.ref p) (.ref P) cv) (compPost (model X.prog X.w) X.A X.xe use Qf (.ref P) t3.heap.objs.size) t4 := by
    refine compLoop_anyD (fun n t => ∃ i H', Inv (X.blk t3 Hb scope cv fp) [] (wipe σ (own.map (·.2))) H' t ∧ tn i t.heap ∧ (∀ b ∈ fp, H' b = none) ∧ W i n H') ?_ m0 ⟨0, Hb, I4, st4, fpn, w0⟩
    rintro n t5 ⟨i, Hc, I5, st5, n5, w5⟩
    rcases turn i n Hc w5 with ⟨stop, qq⟩ | ⟨go, N, hNx, step⟩
    · refine thnF (Tn.done (X.blk t3 Hb scope cv fp) rfl rfl rfl hc i [] t5 _ Hc (fun _ _ => False) I5 (stay I5 n5) st5 stop) fun r t6 ⟨hr, I6⟩ => ?_
      subst hr
      have I7 : Inv X pins σ Hc t6 := I3.call' (ch := fp) I6.os I6.base I6.hok I6.bare fun b hb => ⟨(f3 b hb).1.2.2.2.1, (f3 b hb).1.2.1, (f3 b hb).1.2.2.2.2.1, (f3 b hb).1.2.2.2.2.2⟩
      have nC : Hc t3.heap.objs.size = none := by
        have z : Hc cv.locals = none := I6.free
        rw [cvL] at z
        exact z
      obtain ⟨m, hn, _⟩ := I6.loc
      have hn : t6.heap.Ns cv.locals m := hn
      rw [cvL] at hn
      exact hRR P t3.heap.objs.size t6 m Hc I7 qq hn (I3.fpOk (Nat.le_refl _) nC)
    · refine thnF (Tn.item (X.blk t3 Hb scope cv fp) rfl rfl rfl hc i [] t5 _ Hc (fun _ _ => False) I5 (stay I5 n5) st5 go) fun r t6 ⟨u, hr, h6⟩ => ?_
      subst hr
      refine thnF h6 fun _ t7 ⟨x, Hd, I7, r7, y7, st7, n7⟩ => ?_
      have I7p := I7.pinned (stay I7 n7) (Tn.obj _ _ st7)
      refine thnF (rg.run _ t7 _ Hd x u _ I7p r7 (step x Hd y7)) fun _ t8 ⟨σ8, H8, I8, hw8, q8⟩ => ?_
      refine thnF (rt.run _ t8 σ8 H8 _ I8 q8) fun b t9 ⟨H9, I9, q9⟩ => ?_
      have fin : ∀ {t : Shared} {H' : Hp}, Inv (X.blk t3 Hb scope cv fp) ([] ++ pinsAt fp t7.heap) σ8 H' t → N H' → ∃ m, m < n ∧ ∃ i H', Inv (X.blk t3 Hb scope cv fp) [] (wipe σ (own.map (·.2))) H' t ∧ tn i t.heap ∧ (∀ b ∈ fp, H' b = none) ∧ W i m H' := fun {t H'} I' nx => by
        obtain ⟨m', hm, w'⟩ := hNx H' nx
        have pin : ∀ b ∈ fp, ∀ o, t7.heap.get? b = some o → t.heap.get? b = some o ∧ H' b = none := fun b hb o z =>
          let y := I'.pin (b, o) (List.mem_append_right _ (List.mem_append_right _ (mem_pinsAt hb z)))
          ⟨y.1, y.2.1⟩
        have hl : (wipe σ (own.map (·.2))).length = σ8.length := by rw [← hw8, wipe_length]
        refine ⟨m', hm, i + 1, H', (I'.unpinned (pins := [])).weak hl (fun j v z => ?_), Tn.keep _ _ _ st7 fun b hb o z => (pin b hb o z).1, fun b hb => ?_, w'⟩
        · rw [← hw8] at z
          exact (wipe_some z).1
        · obtain ⟨o, z, _⟩ := Tn.obj _ _ st7 b hb
          exact (pin b hb o z).2
      cases b with
      | false =>
        rw [if_neg Bool.false_ne_true] at q9
        exact fin I9 q9
      | true =>
        rw [if_pos rfl] at q9
        refine thnF (rk.run _ t9 σ8 H9 _ I9 q9) fun z t10 ⟨yk, H10, I10, r10, q10⟩ => ?_
        refine thnF (re.run _ t10 σ8 H10 _ I10 q10) fun z2 t11 ⟨yv, H11, I11, r11, q11⟩ => ?_
        refine thnF (hPt (X.blk t3 Hb scope cv fp) _ t11 σ8 H11 P yk yv z z2 N rfl rfl rfl rfl I11 r10 r11 q11) fun _ t12 ⟨H12, I12, nx⟩ => fin I12 nx
  exact codeAny_compStart_dict loop (Tn.self X.A 0 _ _ _ st4 loop)
def PtD (w : World) (K : PySem.W.Frag) (P : Addr) (y z : V) (H : Hp) (N : Hp → Prop) : Prop := ∃ G q kvs k d, H P = some (dictHO P q) ∧ RepE w K H G q.l kvs ∧ (kvs.map (·.1)).Nodup ∧ dctOk kvs k = true ∧ (putD k d kvs).length ≤ line ∧ Rep w K H G y k ∧ Rep w K H G z d ∧ ∀ q', RepE w K H G q'.l (putD k d kvs) → N (upd H P (dictHO P q'))
theorem ptD_ok (hu : X.A.units + 9 < cLine) : ∀ (Y : Cx) (pns : List (Addr × Obj)) (t : Shared) (τ : Sg) (Hz : Hp) (P : Addr) (y z : V) (u r : Value) (N : Hp → Prop), Y.prog = X.prog → Y.w = X.w → Y.K = X.K → Y.A = X.A → L2.Inv Y pns τ Hz t → RelV y u → RelV z r → PtD X.w X.K P y z Hz N → wpAny (model X.prog X.w) X.A (dictSet P u r) (fun _ t' => ∃ Hz', L2.Inv Y pns τ Hz' t' ∧ N Hz') (fun _ _ => False) t := by
  intro Y pns t τ Hz P y z u r N e1 e2 e3 e4 I ry rz ⟨G, q, kvs, k, d, h1, h2, h3, h4, h5, h6, h7, h8⟩
  rw [← e2, ← e3] at h2 h6 h7 h8
  rw [← e1, ← e2, ← e4]
  exact dct_dictSet (X := Y) (by rw [e4]; exact hu) I h1 h2 h3 h4 (by rw [line_eq]; exact h5) h6 ry h7 rz fun q' t' I' re => ⟨_, I', h8 q' re⟩
variable {T : Tb} {pos : Pos}
def dcLoop (nx : Nx) (vs : List Nat) (tg : Gx) (test : Tx) (fk fv : Ex) : Nat → Nat → List (D × D) → S → R (List (D × D))
  | 0, _, _, _ => .bad
  | n + 1, i, acc, s => match nx i s with
    | none => .bad
    | some none => .ok acc s
    | some (some d) => if vs.all (notOwn s) then (match tg d (wipeS vs s) with
      | .ok _ s1 => (match test s1 with
        | .ok true s2 => (match fk s2 with
          | .ok k s3 => (match fv s3 with
            | .ok y s4 => if dctOk acc k && Nat.ble (putD k y acc).length line then dcLoop nx vs tg test fk fv n (i + 1) (putD k y acc) (restS vs s s4) else .bad
            | _ => .bad)
          | _ => .bad)
        | .ok false s2 => dcLoop nx vs tg test fk fv n (i + 1) acc (restS vs s s2)
        | _ => .bad)
      | _ => .bad) else .bad
def dcF (src : Ix) (vs : List Nat) (tg : Gx) (test : Tx) (fk fv : Ex) : Fx := fun s => (src s).bind fun nx s => match dcLoop nx vs tg test fk fv fuel 0 [] s with
  | .ok acc s => .ok (.M acc) s
  | _ => .bad
theorem dc_imp {src : Ix} {us : List Nat} {g : Gx} {ft : Tx} {fk fv : Ex} {vs : List Nat} (hvs : ∀ i ∈ us, i ∈ vs) {σ : Sg} {H : Hp} {Q : VK} (h : tF X.w X.K T W0 (dcF src vs g ft fk fv) σ H Q) :
    tDcG (PtD X.w X.K) (tI X.w X.K T W0 src) (tG X.w X.K T us g) (tB X.w X.K T W0 ft) (tV X.w X.K T W0 fk) (tV X.w X.K T W0 fv) vs σ H Q := by
  obtain ⟨G, s, I, q⟩ := h
  refine ⟨G, s, I, ?_⟩
  unfold dcF at q
  cases e0 : src s with
  | exc c d s1 => rw [e0] at q; exact q.1.elim
  | bad => rw [e0] at q; exact q
  | ok nx s1 =>
    rw [e0] at q
    intro H1 G1 It0 b I1 ok p hp
    have q : (match dcLoop nx vs g ft fk fv fuel 0 [] s1 with
      | .ok acc s => R.ok (Co.M acc) s
      | _ => .bad).holds (PF X.w X.K T Q σ H1 G1 s1) (PX X.w X.K T W0 σ H1 G1 s1) := hF b q
    have nT : ¬ Tch σ G1 s1 p := fun z => by
      obtain ⟨c, z, _⟩ := I1.tch z
      obtain ⟨o, z⟩ := z.some
      rw [hp] at z; cases z
    have nF : ¬ G1.F p := fun z => by
      obtain ⟨o, z⟩ := I1.frs p z
      rw [hp] at z; cases z
    have b0 : Stp σ H1 G1 s1 σ (upd H1 p (dictHO p ⟨[], 0⟩)) G1 s1 := Stp.fresh0 hp
    have q : (dcLoop nx vs g ft fk fv fuel 0 [] s1).holds (fun acc s' => PF X.w X.K T Q σ H1 G1 s1 (.M acc) s') fun _ _ _ => False := by
      cases e1 : dcLoop nx vs g ft fk fv fuel 0 [] s1 with
      | ok acc s2 => rw [e1] at q; exact q
      | exc c d s2 => rw [e1] at q; exact q
      | bad => rw [e1] at q; exact q
    refine ⟨fun i m H' => ∃ G' s' acc de, Stp σ H1 G1 s1 σ H' G' s' ∧ StR X.w X.K T σ H' G' s' ∧ H' p = some (dictHO p de) ∧ RepE X.w X.K H' G' de.l acc ∧ (acc.map (·.1)).Nodup ∧ ¬ G'.F p ∧ ¬ Tch σ G' s' p ∧
      (dcLoop nx vs g ft fk fv m i acc s').holds (fun acc s' => PF X.w X.K T Q σ H1 G1 s1 (.M acc) s') fun _ _ _ => False, ⟨fuel, G1, s1, [], ⟨[], 0⟩, b0, I1.fresh0 hp, upd_same, .nil, by simp, nF, nT, q⟩, ?_⟩
    rintro i m H2 ⟨G2, s2, acc, de, b2, I2, hD, rD, nd, nF2, nT2, q2⟩
    have o := ok i σ H2 G2 s2 b2 I2
    cases m with
    | zero => exact q2.elim
    | succ m =>
      simp only [dcLoop] at q2
      cases e2 : nx i s2 with
      | none => rw [e2] at q2; exact q2.elim
      | some od =>
        rw [e2] at q2 o
        cases od with
        | none => exact .inl ⟨o, q2 _ _ _ b2 I2 ⟨de, hD, rD, nd⟩ hp nF2 nT2⟩
        | some d =>
          obtain ⟨o1, o2⟩ := o
          refine .inr ⟨o1, fun H' => ∃ G' s' acc de, Stp σ H1 G1 s1 σ H' G' s' ∧ StR X.w X.K T σ H' G' s' ∧ H' p = some (dictHO p de) ∧ RepE X.w X.K H' G' de.l acc ∧ (acc.map (·.1)).Nodup ∧ ¬ G'.F p ∧ ¬ Tch σ G' s' p ∧
            (dcLoop nx vs g ft fk fv m (i + 1) acc s').holds (fun acc s' => PF X.w X.K T Q σ H1 G1 s1 (.M acc) s') fun _ _ _ => False, fun H' h => ⟨m, Nat.lt_succ_self _, h⟩, fun x H3 y => ?_⟩
          obtain ⟨G3, b3, I3, r3⟩ := o2 x H3 y
          simp only at q2
          split at q2
          · rename_i no
            refine ⟨G3, wipeS vs s2, d, I3.wipe, r3, ?_⟩
            cases e3 : g d (wipeS vs s2) with
            | exc c d s => rw [e3] at q2; exact q2.elim
            | bad => rw [e3] at q2; exact q2.elim
            | ok u s4 =>
              rw [e3] at q2
              intro σ4 H4 G4 fr b4 I4
              have fr : Frm vs (wipe σ vs) σ4 := ⟨fr.1, fun j hj => fr.2 j fun z => hj (hvs j z)⟩
              refine ⟨wipe_eq fr, G4, s4, I4, ?_⟩
              have fr2 : Frm vs σ σ4 := ⟨by rw [fr.1, wipe_length], fun j hj => by rw [fr.2 j hj, wipe_not hj]⟩
              have turn : ∀ {σ5 H5 G5 s5}, Frm vs σ σ5 → Stp σ H3 G3 s2 σ5 H5 G5 s5 → StR X.w X.K T σ5 H5 G5 s5 → Stp σ H2 G2 s2 σ H5 G5 (restS vs s2 s5) ∧ StR X.w X.K T σ H5 G5 (restS vs s2 s5) ∧ H5 p = some (dictHO p de) ∧ RepE X.w X.K H5 G5 de.l acc ∧ ¬ G5.F p ∧ ¬ Tch σ G5 (restS vs s2 s5) p := fun {σ5 H5 G5 s5} f5 b5 I5 => by
                obtain ⟨I6, ht, hw⟩ := I3.unwipe no I5 b5 f5
                have b6 : Stp σ H2 G2 s2 σ H5 G5 (restS vs s2 s5) := b3.trans (b5.unwipe ht hw)
                refine ⟨b6, I6, b6.keep p _ hD (fun z => nT2 z.tch), rD.kp (I2.kp b6), fun z => ?_, fun z => ?_⟩
                · rcases b6.nf p z with z | z | z
                  · exact nF2 z
                  · rw [hD] at z; cases z
                  · exact nT2 z
                · rcases b6.tc p z with z | z
                  · exact nT2 z
                  · rw [hD] at z; cases z
              have b34 : Stp σ H3 G3 s2 σ4 H4 G4 s4 := Stp.wipe.trans b4
              simp only at q2
              cases e4 : ft s4 with
              | exc c d s => rw [e4] at q2; exact q2.elim
              | bad => rw [e4] at q2; exact q2.elim
              | ok k s5 =>
                rw [e4] at q2
                intro H5 G5 b5 I5
                cases k with
                | false =>
                  rw [if_neg Bool.false_ne_true]
                  simp only at q2
                  obtain ⟨c1, c2, c3, c4, c5, c6⟩ := turn fr2 (b34.trans b5) I5
                  exact ⟨G5, restS vs s2 s5, acc, de, b2.trans c1, c2, c3, c4, nd, c5, c6, q2⟩
                | true =>
                  rw [if_pos rfl]
                  refine ⟨G5, s5, I5, ?_⟩
                  simp only at q2
                  cases e5 : fk s5 with
                  | exc c d s => rw [e5] at q2; exact q2.elim
                  | bad => rw [e5] at q2; exact q2.elim
                  | ok kk s6 =>
                    rw [e5] at q2
                    intro H6 G6 vk b6 I6 r6
                    refine ⟨G6, s6, I6, ?_⟩
                    simp only at q2
                    cases e6 : fv s6 with
                    | exc c d s => rw [e6] at q2; exact q2.elim
                    | bad => rw [e6] at q2; exact q2.elim
                    | ok yy s7 =>
                      rw [e6] at q2
                      intro H7 G7 vy b7 I7 r7
                      obtain ⟨c1, c2, c3, c4, c5, c6⟩ := turn fr2 (((b34.trans b5).trans b6).trans b7) I7
                      simp only at q2
                      split at q2
                      · rename_i hok
                        rw [Bool.and_eq_true, Nat.ble_eq] at hok
                        refine ⟨G7, de, acc, kk, yy, c3, c4, nd, hok.1, hok.2, r6.kp (I6.kp b7), r7, fun q' re => ?_⟩
                        have kf := kp_dict (o := dictHO p q') c3 c5
                        exact ⟨G7, restS vs s2 s7, putD kk yy acc, q', (b2.trans c1).free hp c3, c2.free c3 trivial c5 c6, upd_same, re.kp kf, putD_nodup nd, c5, c6, q2⟩
                      · exact q2.elim
          · exact q2.elim
theorem sf_dc {us : List Nat} {kx vx tg iter : Expr} {ifs : List Expr} {scope : Scope} {own : List (Str × Nat)} {src : Ix} {g : Gx} {ft : Tx} {fk fv : Ex} (hu : X.A.units + 9 < cLine) (hc : X.calm = true) (hN : X.N.Nodup) (hi : SI X T W0 tg iter src) (ok : BlkOk X.N X.env.scope scope own) (hvs : ∀ i ∈ us, i ∈ own.map (·.2))
    (hg : ∀ (t : Shared) (H : Hp) (C : Addr) (cl : List (Str × Addr)) (fp : List Addr), SG (X.blk t H scope (compEnvC scope cl C X.env) fp) T us tg g) (ht : ∀ (t : Shared) (H : Hp) (C : Addr) (cl : List (Str × Addr)) (fp : List Addr), STs (X.blk t H scope (compEnvC scope cl C X.env) fp) T W0 ifs ft)
    (hk : ∀ (t : Shared) (H : Hp) (C : Addr) (cl : List (Str × Addr)) (fp : List Addr), SV (X.blk t H scope (compEnvC scope cl C X.env) fp) T W0 kx fk) (hv : ∀ (t : Shared) (H : Hp) (C : Addr) (cl : List (Str × Addr)) (fp : List Addr), SV (X.blk t H scope (compEnvC scope cl C X.env) fp) T W0 vx fv)
    (hs : ∀ x, foldedSetIterable iter X.env x = pure x := by intro _; rfl) : SF X T W0 (.DictComp kx vx [⟨tg, iter, ifs, 0⟩] scope pos) (dcF src (own.map (·.2)) g ft fk fv) := by
  refine PE.imp (t := tDcG (PtD X.w X.K) (tI X.w X.K T W0 src) (tG X.w X.K T us g) (tB X.w X.K T W0 ft) (tV X.w X.K T W0 fk) (tV X.w X.K T W0 fv) (own.map (·.2))) ⟨fun pins st σ H Q I h => ?_⟩ fun σ H Q h => dc_imp hvs h
  rw [arm_eval_DictComp]
  refine dcG_core (g := tG X.w X.K T us g) (tt := tB X.w X.K T W0 ft) (tk := tV X.w X.K T W0 fk) (tv := tV X.w X.K T W0 fv) (ptD_ok hu) hc hN I hi ok hg ht hk hv hs h fun P C t m H' I' q hn f => ⟨m, hn, fun h2 sb => ?_⟩
  obtain ⟨f0, f1, f2, f3, f4, f5⟩ := f
  exact ⟨.ref P, H', I'.turned (t' := t.toks) (fun b o hb e => (sb.2 b hb).trans e) f0 f1 f3 f4 f5, rfl, q⟩
end
end G

set_option Elab.async false
set_option linter.all false
set_option maxRecDepth 100000
set_option maxHeartbeats 4000000
/-! G: sorted -/
namespace G
open PySem PySem.Spec PyProof.Rows L2
open PySem.W (TotalLe sameRank sort_unique EachIs dataLe AllAlike Sortable KeyedOut keyedOut_each alike)

section
variable {α : Type}
def insO (le : α → α → Bool) (x : α) : List α → List α
  | [] => [x]
  | y :: r => if le x y then x :: y :: r else y :: insO le x r
def insSort (le : α → α → Bool) : List α → List α
  | [] => []
  | x :: r => insO le x (insSort le r)
theorem insO_mem {le : α → α → Bool} {x z : α} : ∀ {l : List α}, z ∈ insO le x l → z = x ∨ z ∈ l
  | [], h => by simp only [insO, List.mem_singleton] at h; exact .inl h
  | y :: r, h => by
    unfold insO at h
    split at h
    · exact List.mem_cons.mp h
    · rcases List.mem_cons.mp h with h | h
      · exact .inr (by rw [h]; exact List.mem_cons_self)
      · exact (insO_mem h).imp id fun z => List.mem_cons_of_mem _ z
theorem insO_pw {le : α → α → Bool} (t : TotalLe le) {x : α} : ∀ {l : List α}, l.Pairwise (fun a b => le a b = true) → (insO le x l).Pairwise fun a b => le a b = true
  | [], _ => by simp [insO]
  | y :: r, h => by
    rw [List.pairwise_cons] at h
    unfold insO
    split
    · rename_i hx
      rw [List.pairwise_cons, List.pairwise_cons]
      refine ⟨fun z hz => ?_, h⟩
      rcases List.mem_cons.mp hz with rfl | hz
      · exact hx
      · exact t.trans _ _ _ hx (h.1 z hz)
    · rename_i hx
      rw [List.pairwise_cons]
      refine ⟨fun z hz => ?_, insO_pw t h.2⟩
      rcases insO_mem hz with rfl | hz
      · exact (t.total _ _).resolve_left hx
      · exact h.1 z hz
theorem insSort_pw {le : α → α → Bool} (t : TotalLe le) : ∀ l : List α, (insSort le l).Pairwise fun a b => le a b = true
  | [] => .nil
  | x :: r => insO_pw t (insSort_pw t r)
theorem insO_filter {le : α → α → Bool} (t : TotalLe le) {x c : α} : ∀ {l : List α}, (insO le x l).filter (sameRank le c) = (x :: l).filter (sameRank le c)
  | [] => rfl
  | y :: r => by
    unfold insO
    split
    · rfl
    · rename_i hx
      rw [List.filter_cons, insO_filter t, List.filter_cons (x := x) (xs := r), List.filter_cons (x := x) (xs := y :: r), List.filter_cons (x := y) (xs := r)]
      by_cases h1 : sameRank le c x = true
      · by_cases h2 : sameRank le c y = true
        · unfold sameRank at h1 h2
          rw [Bool.and_eq_true] at h1 h2
          exact absurd (t.trans _ _ _ h1.2 h2.1) hx
        · simp [h1, h2]
      · simp [h1]
theorem insSort_eq {le : α → α → Bool} (t : TotalLe le) (l : List α) : insSort le l = l.mergeSort le := by
  refine sort_unique t (insSort_pw t l) fun c => ?_
  induction l with
  | nil => rfl
  | cons x r ih =>
    show (insO le x (insSort le r)).filter _ = _
    rw [insO_filter t, List.filter_cons, List.filter_cons, ih]
end
theorem dataLe_total {β : Type} (k : β → PyData) : TotalLe (dataLe false k) := PySem.W.sortLe_total _ _ _
/-- the items, by their keys -/
def sortBy (items keys : List D) : List D := (insSort (dataLe false fun p : D × D => py p.2) (items.zip keys)).map (·.1)
mutual
def alikeD : D → D → Bool
  | .non, .non => true
  | .bl _, .bl _ => true
  | .int _, .int _ => true
  | .str _, .str _ => true
  | .lst a, .lst b => alikeL a b
  | .tup a, .tup b => alikeL a b
  | _, _ => false
def alikeL : List D → List D → Bool
  | x :: xs, y :: ys => alikeD x y && alikeL xs ys
  | [], _ => true
  | _ :: _, [] => true
end
mutual
theorem alikeD_ok : ∀ x y : D, alikeD x y = true → alike (py x) (py y) = true
  | .non, y, h => by cases y <;> first | rfl | cases h
  | .bl _, y, h => by cases y <;> first | rfl | cases h
  | .int _, y, h => by cases y <;> first | rfl | cases h
  | .str _, y, h => by cases y <;> first | rfl | cases h
  | .lst a, y, h => by
    cases y with
    | lst b => exact alikeL_ok a b h
    | _ => cases h
  | .tup a, y, h => by
    cases y with
    | tup b => exact alikeL_ok a b h
    | _ => cases h
  | .dct _, y, h => by cases y <;> cases h
  | .cel _, y, h => by cases y <;> cases h
  | .own _, y, h => by cases y <;> cases h
  | .scr _, y, h => by cases y <;> cases h
theorem alikeL_ok : ∀ xs ys : List D, alikeL xs ys = true → PySem.W.alikeAll (pys xs) (pys ys) = true
  | [], ys, _ => by cases ys <;> rfl
  | x :: xs, [], _ => rfl
  | x :: xs, y :: ys, h => by
    simp only [alikeL, Bool.and_eq_true] at h
    simp only [pys, PySem.W.alikeAll, alikeD_ok x y h.1, alikeL_ok xs ys h.2, Bool.and_self]
end
def tupNE : D → Bool
  | .tup (_ :: _) => true
  | _ => false
def atomS : D → Bool
  | .int _ => true
  | .str _ => true
  | .bl _ => true
  | _ => false
/-- what may be sorted by -/
def keysOk (ks : List D) : Bool := ks.all (fun x => ks.all fun y => alikeD x y) && (ks.all tupNE || ks.all atomS) && ks.all (dat 50)
theorem keysOk_all {ks : List D} (h : keysOk ks = true) : AllAlike (ks.map py) ∧ Sortable (ks.map py) ∧ ks.all (dat 50) = true := by
  unfold keysOk at h
  rw [Bool.and_eq_true, Bool.and_eq_true] at h
  obtain ⟨⟨h1, h2⟩, h3⟩ := h
  rw [List.all_eq_true] at h1
  refine ⟨fun d hd d' hd' => ?_, ?_, h3⟩
  · obtain ⟨x, hx, rfl⟩ := List.mem_map.mp hd
    obtain ⟨y, hy, rfl⟩ := List.mem_map.mp hd'
    have := h1 x hx
    rw [List.all_eq_true] at this
    exact alikeD_ok x y (this y hy)
  · rcases Bool.or_eq_true_iff.mp h2 with h2 | h2
    · refine .inl fun d hd => ?_
      obtain ⟨x, hx, rfl⟩ := List.mem_map.mp hd
      have z := List.all_eq_true.mp h2 x hx
      cases x with
      | tup xs =>
        cases xs with
        | nil => cases z
        | cons a r => exact ⟨py a, pys r, rfl⟩
      | _ => cases z
    · refine .inr fun d hd => ?_
      obtain ⟨x, hx, rfl⟩ := List.mem_map.mp hd
      have z := List.all_eq_true.mp h2 x hx
      cases x <;> first | (refine ⟨fun e => ?_, fun _ e => ?_⟩ <;> (simp [py] at e; done)) | cases z
/-- the keys, one call after another -/
def keysF (F : Fn) : List D → List Co → R (List D)
  | [], sto => .ok [] (bareS sto)
  | d :: r, sto => match F [d] sto with
    | .ok k s => (match keysF F r s.sto with
      | .ok ks s2 => .ok (k :: ks) s2
      | _ => .bad)
    | _ => .bad
section
variable {X : Cx} {T : Tb}
/-- a call of the key's def -/
theorem key_call {k : Nat} {f : Addr} {fd : FuncData} {ps : List Str} {F : Fn} {A : Around} {pins : List (Addr × Obj)} {σ : Sg} {H : Hp} {G : Wd} {sto : List Co} {st : Shared} {x : V} {u : Value} {d kd : D} {s1 : S} (hF : FnG X.prog X.w X.K X.mg X.base k f fd ps (spG X.w X.K T F)) (hr : RoomG k A) (hA : A.frames = X.A.frames) (hb : Binds X.K fd ps [])
    (I : Inv X pins σ H st) (r : RelV x u) (J : StR X.w X.K T [] H G (bareS sto)) (rd : Rep X.w X.K H G x d) (e : F [d] sto = .ok kd s1) :
    wpAny (model X.prog X.w) A (call (.ref f) [u]) (fun r st' => ∃ H' G' v, Inv X pins σ H' st' ∧ RelV v r ∧ Stp [] H G (bareS sto) [] H' G' (bareS s1.sto) ∧ StR X.w X.K T [] H' G' (bareS s1.sto) ∧ Rep X.w X.K H' G' v kd) (fun _ _ => False) st := by
  have hsp : spG X.w X.K T F [x] H (fun v H' => ∃ G', Stp [] H G (bareS sto) [] H' G' (bareS s1.sto) ∧ StR X.w X.K T [] H' G' (bareS s1.sto) ∧ Rep X.w X.K H' G' v kd) E0 := ⟨G, sto, [d], J, .cons rd .nil, by
    rw [e]
    exact fun H' G' v b J' rv => ⟨G', b, J', rv⟩⟩
  have hl : ([u] ++ ([] : List Value)).length = ps.length := hF.ln [x] H _ E0 hsp
  have e0 : Env0 X.prog X.w X.K X.mg X.base A X.stack st H := ⟨hA.trans I.env0.frames, I.env0.mod, I.env0.bs, I.env0.bsz, I.env0.funs, I.env0.frf, I.env0.hok, I.env0.bare⟩
  refine wpAny_call (codeAny_mono (hF.go A X.stack st H ⟨[u], []⟩ [u] [x] _ hr e0 (by simpa using hb st [u] I.kIn hl) (.cons r .nil) hsp) fun r s' hq => ?_)
  cases r with
  | error e => exact hq.elim
  | ok fl =>
    cases fl with
    | ret u' =>
      obtain ⟨v, H', I', rv, G', b, J', rk⟩ := I.after (Q := fun v H' => ∃ G', Stp [] H G (bareS sto) [] H' G' (bareS s1.sto) ∧ StR X.w X.K T [] H' G' (bareS s1.sto) ∧ Rep X.w X.K H' G' v kd) hq
      exact ⟨H', G', v, I', rv, b, J', rk⟩
    | next => exact hq.elim
    | brk => exact hq.elim
    | cont => exact hq.elim
theorem pys_map : ∀ ks : List D, pys ks = ks.map py
  | [] => rfl
  | d :: r => by rw [pys, List.map_cons, pys_map r]
theorem zip_eachIs {w : World} {K : PySem.W.Frag} {H : Hp} {G : Wd} : ∀ {xs : List V} {vs : List Value} {ds kds : List D}, Vals xs vs → RepL w K H G xs ds → kds.length = ds.length → EachIs (fun (u : Value) (p : D × D) => ∃ x, RelV x u ∧ Rep w K H G x p.1) vs (ds.zip kds)
  | _, _, _, [], .nil, .nil, _ => .nil
  | _, _, _, kd :: kr, .cons b1 b2, .cons a1 a2, h => .cons ⟨_, b1, a1⟩ (zip_eachIs b2 a2 (by simpa using h))
  | _, _, _, _ :: _, .nil, .nil, h => by simp at h
  | _, _, _, [], .cons _ _, .cons _ _, h => by simp at h
theorem freed_none (h : Heap) (a : Addr) : (h.update a fun o => { o with data := .freed }).get? a = none := by
  unfold Heap.get? Heap.update
  simp only
  rw [Array.getElem?_modify, if_pos rfl]
  cases h.objs[a]? with
  | none => rfl
  | some o => rfl
theorem FpOk.at {pins : List (Addr × Obj)} {H H' : Hp} {b : Addr} (f : FpOk X pins H b) (hn : H' b = none) : FpOk X pins H' b := ⟨hn, f.2⟩
theorem RepL.snoc1 {w : World} {K : PySem.W.Frag} {H : Hp} {G : Wd} {vs : List V} {ds : List D} {v : V} {d : D} (r : RepL w K H G vs ds) (q : Rep w K H G v d) : RepL w K H G (vs ++ [v]) (ds ++ [d]) := r.snoc q
theorem vals_snoc {vs : List V} {us : List Value} {v : V} {u : Value} (r : Vals vs us) (q : RelV v u) : Vals (vs ++ [v]) (us ++ [u]) := r.append (.cons q .nil)
theorem readsAll_eachIs {h : Heap} : ∀ {vs : List Value} {ds : List PyData} {as : List Addr}, ReadsAll h vs ds as → EachIs (fun v d => ∃ as, Reads h v d as) vs ds
  | _, _, _, .nil => .nil
  | _, _, _, .cons r t => .cons ⟨_, r⟩ (readsAll_eachIs t)
/-- the items are given to the key's def, one after another; then the list gets them in order -/
theorem keys_run {k : Nat} {f : Addr} {fd : FuncData} {ps : List Str} {F : Fn} {A : Around} {E : Value → Shared → Prop} {P : PySem.Fin → Shared → Prop} (hF : FnG X.prog X.w X.K X.mg X.base k f fd ps (spG X.w X.K T F)) (hr : RoomG k A) (hA : A.frames = X.A.frames) (hb : Binds X.K fd ps []) (hu : A.units + 60 < cLine)
    {pins : List (Addr × Obj)} {σ : Sg} {H : Hp} {G : Wd} {sto : List Co} {st : Shared} {a kS : Addr} {e1 : Nat} {vs : List Value} {xs : List V} {ds kds : List D} {s2 : S} (I : Inv X pins σ H st) (J : StR X.w X.K T [] H G (bareS sto)) (rv : Vals xs vs) (rd : RepL X.w X.K H G xs ds) (hk : keysF F ds sto = .ok kds s2) (hok : keysOk kds = true) (hz : ds.length ≤ line)
    (ha : st.heap.get? a = some (seqObj "list" #[] e1)) (hkS : st.heap.get? kS = some (seqObj "list" #[] 0)) (na : FpOk X pins H a) (nk : FpOk X pins H kS) (hne : kS ≠ a)
    (h : ∀ H' G' us' out c st', Inv X pins σ (upd H' a (.lst us')) st' → Stp [] H G (bareS sto) [] H' G' (bareS s2.sto) → StR X.w X.K T [] H' G' (bareS s2.sto) → H' a = none → Vals us' out → RepL X.w X.K H' G' us' (sortBy ds kds) → st'.heap.get? a = some (seqObj "list" (List.toArray out) c) → P (.done (.ret .none)) st') :
    wpAny (model X.prog X.w) A (ksk_rest a (.ref f) false vs.toArray e1 (.ref kS)) P E st := by
  unfold ksk_rest
  refine wpAny_bind (wpAny_rule ?_)
  rw [List.forIn_toArray]
  have hl : vs.length = ds.length := by rw [← rv.length, rd.length]
  refine wpAny_bind (PyProof.Rows.ksk_fold (fun i st' => ∃ H' G' sto' kus kA e, Inv X pins σ H' st' ∧ Stp [] H G (bareS sto) [] H' G' (bareS sto') ∧ StR X.w X.K T [] H' G' (bareS sto') ∧ st'.heap.get? kS = some (seqObj "list" kA e) ∧ st'.heap.get? a = some (seqObj "list" #[] e1) ∧ H' kS = none ∧ H' a = none ∧
    Vals kus kA.toList ∧ RepL X.w X.K H' G' kus (kds.take i) ∧ kds.length = ds.length ∧ keysF F (ds.drop i) sto' = .ok (kds.drop i) s2) vs 0 st ⟨H, G, sto, [], #[], 0, I, Stp.refl, J, hkS, ha, nk.1, na.1, .nil, .nil, ?_, hk⟩ ?step ?done)
  · clear h hkS ha
    clear rd rv hl hz hok I J
    induction ds generalizing sto kds s2 with
    | nil => cases hk; rfl
    | cons d r ih =>
      unfold keysF at hk
      cases e : F [d] sto with
      | ok kd s1 =>
        rw [e] at hk
        simp only at hk
        cases e2 : keysF F r s1.sto with
        | ok ks s3 =>
          rw [e2] at hk
          cases hk
          simp [ih e2]
        | exc c d s => rw [e2] at hk; cases hk
        | bad => rw [e2] at hk; cases hk
      | exc c d s => rw [e] at hk; cases hk
      | bad => rw [e] at hk; cases hk
  case step =>
    rintro j u st1 hx ⟨H1, G1, sto1, kus, kA, e, I1, b1, J1, gk, ga, nk1, na1, rk, rr, hlk, hk1⟩
    simp only [Nat.zero_add] at hk1 rr ⊢
    have hj : j < vs.length := (List.getElem?_eq_some_iff.mp hx).1
    have hjd : j < ds.length := by omega
    obtain ⟨d, hd⟩ : ∃ d, ds[j]? = some d := ⟨_, List.getElem?_eq_getElem hjd⟩
    obtain ⟨x, hxx, rdx⟩ := rd.get hd
    obtain ⟨u', hu', ru⟩ := rv.get hxx
    rw [hx] at hu'
    cases hu'
    have ed : ds.drop j = d :: ds.drop (j + 1) := by
      rw [List.drop_eq_getElem_cons hjd]
      congr 1
      rw [List.getElem?_eq_getElem hjd] at hd
      exact Option.some.inj hd
    rw [ed] at hk1
    unfold keysF at hk1
    cases e2 : F [d] sto1 with
    | exc c d s => rw [e2] at hk1; cases hk1
    | bad => rw [e2] at hk1; cases hk1
    | ok kd s3 =>
      rw [e2] at hk1
      simp only at hk1
      cases e3 : keysF F (ds.drop (j + 1)) s3.sto with
      | exc c d s => rw [e3] at hk1; cases hk1
      | bad => rw [e3] at hk1; cases hk1
      | ok ks s4 =>
        rw [e3] at hk1
        have e4 : kd :: ks = kds.drop j ∧ s4 = s2 := by injection hk1 with z1 z2; exact ⟨z1, z2⟩
        obtain ⟨e4, rfl⟩ := e4
        have hjk : j < kds.length := by omega
        have e5 : kds[j] = kd ∧ kds.drop (j + 1) = ks := by
          rw [List.drop_eq_getElem_cons hjk] at e4
          injection e4 with z1 z2
          exact ⟨z1.symm, z2.symm⟩
        -- the two lists are held fast while the def runs
        have hf : ∀ b ∈ [kS, a], FpOk X pins H1 b := fun b hb => by
          rcases List.mem_cons.mp hb with rfl | hb
          · exact FpOk.at nk nk1
          · cases List.mem_singleton.mp hb
            exact FpOk.at na na1
        have Ip := I1.pinned (fp := [kS, a]) hf fun b hb => by
          rcases List.mem_cons.mp hb with rfl | hb
          · exact ⟨_, gk, fun v z => nomatch z⟩
          · cases List.mem_singleton.mp hb
            exact ⟨_, ga, fun v z => nomatch z⟩
        have kc := key_call (T := T) hF hr hA hb Ip ru J1 (rdx.kp (J.kp b1)) e2
        refine wpAny_bind (wpAny_attempt (wpAny_mono kc (fun r st2 ⟨H2, G2, v, I2, rv2, b2, J2, rk2⟩ => ?_) fun _ _ z => z.elim))
        have pk := I2.pin (kS, seqObj "list" kA e) (List.mem_append_right _ (List.mem_append_right _ (mem_pinsAt List.mem_cons_self gk)))
        have pa := I2.pin (a, seqObj "list" #[] e1) (List.mem_append_right _ (List.mem_append_right _ (mem_pinsAt (List.mem_cons_of_mem _ List.mem_cons_self) ga)))
        have I3 := I2.unpinned
        try dsimp only
        have hsz : kA.size ≤ sizeLine := by
          have z1 := rk.length
          have z2 := rr.length
          rw [List.length_take] at z2
          have z3 : kA.toList.length = kA.size := Array.length_toList
          rw [line_eq]
          have := Nat.min_le_left j kds.length
          omega
        obtain ⟨c2, hc2⟩ : ∃ c2, (st2.heap.update kS (Obj.mapSeq (·.push r))).get? kS = some (seqObj "list" (kA.push r) c2) := ⟨_, get?_update_seq pk.1 (·.push r)⟩
        have sb := Heap.SameBut.update st2.heap kS (Obj.mapSeq (·.push r))
        refine wpAny_bind (listUpdate_at pk.1 rfl ?_ hsz (Nat.le_trans (Nat.le_of_eq (Array.size_push ..)) (Nat.succ_le_succ hsz)))
        have f1 := FpOk.at nk pk.2.1
        refine wpAny_pure ⟨rfl, H2, G2, s3.sto, kus ++ [v], kA.push r, c2, I3.turned (t' := st2.toks) (fun b o hb z => (sb.2 b hb).trans z) f1.1 f1.2.1 f1.2.2.2.1 f1.2.2.2.2.1 f1.2.2.2.2.2, b1.trans b2, J2, hc2, (sb.2 a (Ne.symm hne)).trans pa.1, pk.2.1, pa.2.1, ?_, ?_, hlk, ?_⟩
        · rw [Array.toList_push]
          exact vals_snoc rk rv2
        · rw [List.take_add_one, List.getElem?_eq_getElem hjk, e5.1]
          exact (rr.kp (J1.kp b2)).snoc rk2
        · rw [e5.2]; exact e3
  case done =>
    rintro st1 ⟨H1, G1, sto1, kus, kA, e, I1, b1, J1, gk, ga, nk1, na1, rk, rr, hlk, hk1⟩
    rw [Nat.zero_add] at rr hk1
    rw [List.take_of_length_le (by omega)] at rr
    rw [List.drop_of_length_le (by omega)] at hk1
    have es : sto1 = s2.sto := by
      unfold keysF at hk1
      injection hk1 with z1 z2
      rw [← z2]
    subst es
    obtain ⟨al, so, dt⟩ := keysOk_all hok
    have hdp : DpAll X.K H1 kus (pys kds) := RepL.dp 50 rr dt
    obtain ⟨as, hreads⟩ := Dp.readsAll I1 (pys kds) kus kA.toList hdp rk
    have epy : pys kds = kds.map py := pys_map kds
    rw [epy] at hreads
    have hE := readsAll_eachIs hreads
    have hks : kA.size = vs.length := by
      have z1 := rk.length
      have z2 := rr.length
      have z3 : kA.toList.length = kA.size := Array.length_toList
      omega
    refine wpAny_bind (listItems_at gk rfl ?_)
    have hud : ∀ d, d ∈ kds.map py → A.units + d.depth < cLine := fun d hd => by
      obtain ⟨x, hx, rfl⟩ := List.mem_map.mp hd
      have := (dat_canLay 50 x (List.all_eq_true.mp dt x hx)).2
      omega
    have kb : PySem.W.KeepsBut a (st1.heap.update kS fun o => { o with data := .freed }) st1.heap := fun b o hb z => by
      by_cases q : b = kS
      · subst q; rw [freed_none] at z; cases z
      · rw [Heap.get?_update_other _ _ (Ne.symm q)] at z; exact z
    refine PySem.W.keyH_end (κ := PySem.W.dataKind st1.heap (kds.map py)) (b := false) kb (freed_none _ _) gk ga hne (PySem.W.SortsAt.data (s := st1) hE al so hud) hks (by rw [line_eq]; omega) fun h3 tk3 c k3 n3 => ?_
    have hko : KeyedOut false (kds.map py) vs (PySem.W.sortVals (PySem.W.dataKind st1.heap (kds.map py)) false kA.toList vs) := ⟨st1.heap, kA.toList, al, rfl, hE⟩
    -- what stands where
    have keep : ∀ b o, b ∉ [kS, a] → st1.heap.get? b = some o → h3.get? b = some o := fun b o hb z => by
      have n1 : b ≠ kS := fun q => hb (by rw [q]; exact List.mem_cons_self)
      have n2 : b ≠ a := fun q => hb (by rw [q]; exact List.mem_cons_of_mem _ List.mem_cons_self)
      exact k3 b o n2 (by rw [Heap.get?_update_other _ _ (Ne.symm n1)]; exact z)
    have I2 : Inv X pins σ H1 { st1 with heap := h3, toks := tk3 } := I1.turnedL keep fun b hb => by
      rcases List.mem_cons.mp hb with rfl | hb
      · exact FpOk.at nk nk1
      · cases List.mem_singleton.mp hb
        exact FpOk.at na na1
    have hR : EachIs (fun (u : Value) (p : D × D) => ∃ x, RelV x u ∧ Rep X.w X.K H1 G1 x p.1) vs (ds.zip kds) := zip_eachIs rv (rd.kp (J.kp b1)) hlk
    have ez : kds.map py = (ds.zip kds).map (fun p => py p.2) := by
      have z : ((ds.zip kds).map Prod.snd).map py = kds.map py := by rw [List.map_snd_zip (by omega)]
      rw [List.map_map] at z
      exact z.symm
    rw [ez] at hko n3
    have hout := keyedOut_each (fun p : D × D => py p.2) hko hR
    rw [← insSort_eq (dataLe_total _)] at hout
    have fin : ∀ {out : List Value} {bs : List (D × D)}, EachIs (fun (u : Value) (p : D × D) => ∃ x, RelV x u ∧ Rep X.w X.K H1 G1 x p.1) out bs → ∃ us, Vals us out ∧ RepL X.w X.K H1 G1 us (bs.map (·.1)) := fun {out bs} e => by
      induction e with
      | nil => exact ⟨[], .nil, .nil⟩
      | cons q _ ih =>
        obtain ⟨x, q1, q2⟩ := q
        obtain ⟨us, z1, z2⟩ := ih
        exact ⟨x :: us, .cons q1 z1, .cons q2 z2⟩
    obtain ⟨us, z1, z2⟩ := fin hout
    have hus : us.length ≤ sizeLine := by
      have y1 := z1.length
      have y2 := PySem.W.KeyedOut.length hko (by simp [hlk, hl])
      rw [line_eq]
      omega
    have I3 : Inv X pins σ (upd H1 a (.lst us)) { st1 with heap := h3, toks := tk3 } := I2.take (t' := tk3) (fun _ _ _ z => z) (FpOk.at na na1) ⟨hus, _, c, z1, n3⟩
    exact h H1 G1 us _ c _ I3 b1 J1 na1 z1 z2 n3
end
end G

set_option Elab.async false
set_option linter.all false
set_option maxRecDepth 100000
set_option maxHeartbeats 4000000
/-! G: sorted, in use -/
namespace G
open PySem PySem.Spec PyProof.Rows L2
open PySem.W (EachIs dataLe AllAlike Sortable KeyedOut keyedOut_each alike)

/-- a view of the values of the dict at d -/
def vwHO (p d : Addr) : HO := .ext fun h => h.get? p = some { cls := .type "dict_values", data := .fields #[.ref d] }
/-- what can be collected: a list, a dict's keys, its values -/
def CollV (K : PySem.W.Frag) (H : Hp) (x : V) (us : List V) : Prop := (∃ a, x = .ref a ∧ SqL K H a us) ∨ (∃ a q, x = .ref a ∧ H a = some (dictHO a q) ∧ Vals us (q.l.map (·.key))) ∨ ∃ p a q, x = .ref p ∧ H p = some (vwHO p a) ∧ H a = some (dictHO a q) ∧ Vals us (q.l.map (·.val))
section
variable {X : Cx} {T : Tb} {W : Wi} {pos : Pos}
theorem items_vals {f : DictEntry → Value} {l : List DictEntry} {us : List V} {acc : Array Value} (hv : Vals us (l.map f)) (h : ItemsOf (fun i v => ∃ hi : i < l.toArray.size, v = f l.toArray[i]) acc l.toArray.size) : Vals us acc.toList := by
  have e : acc.toList = l.map f := by
    refine List.ext_getElem? fun j => ?_
    have hs := h.1
    have hs2 : l.toArray.size = l.length := List.size_toArray
    rw [Array.getElem?_toList, List.getElem?_map]
    by_cases hj : j < acc.size
    · have e1 := Array.getElem?_eq_getElem hj
      obtain ⟨hi, e2⟩ := h.2 j _ e1
      rw [e1, e2, List.getElem?_eq_getElem (by omega)]
      simp
    · rw [Array.getElem?_eq_none (by omega), List.getElem?_eq_none (by omega)]
      rfl
  rw [e]
  exact hv
theorem coll_run {pins : List (Addr × Obj)} {σ : Sg} {H : Hp} {st : Shared} {x : V} {v : Value} {us : List V} {E : Value → Shared → Prop} (hc : X.calm = true) (I : Inv X pins σ H st) (rx : RelV x v) (c : CollV X.K H x us) {Q : List Value → Shared → Prop}
    (h : ∀ acc h' tk, Vals us acc → acc.length ≤ sizeLine → (∀ b o, st.heap.get? b = some o → h'.get? b = some o) → Q acc { st with heap := h', toks := tk }) : wpAny (model X.prog X.w) X.A.in1 (collect v) Q E st := by
  rcases c with ⟨a, rfl, hq⟩ | ⟨a, q, rfl, ha, hv⟩ | ⟨p, a, q, rfl, hp, ha, hv⟩
  · cases rx
    obtain ⟨its, rv, pl, hz⟩ := I.list hq
    have hl : its.length ≤ sizeLine := by rw [← rv.length]; exact hz
    refine collect_list (vs := its) pl.isList ?_ hl
    refine h its _ st.toks rv hl fun b o e => ?_
    have lt := Heap.lt_size e
    exact (Heap.get?_update_other _ _ (Nat.ne_of_gt lt)).trans (Heap.get?_push_of_some _ e)
  · cases rx
    obtain ⟨hs, hl, raw⟩ := dct_raw I ha
    refine PySem.W.kdu_collect (KdlSrc.rawDict hs) (I.ok.hd hc) raw (by rw [List.size_toArray]; exact hl) fun h' tk acc kp hacc => ?_
    have r := items_vals hv hacc
    exact h _ h' tk r (by rw [← r.length, hv.length, List.length_map]; exact hl) kp
  · cases rx
    obtain ⟨hs, hl, raw⟩ := dct_raw I ha
    have e := (I.hok p _ hp).1
    refine PySem.W.kdu_collect (KdlSrc.rawValues (r := p)) (I.ok.hd hc) ⟨⟨_, e, rfl, rfl⟩, raw⟩ (by rw [List.size_toArray]; exact hl) fun h' tk acc kp hacc => ?_
    have r := items_vals hv hacc
    exact h _ h' tk r (by rw [← r.length, hv.length, List.length_map]; exact hl) kp
/-- sorted(x, ..): list.sort(..) of a new list -/
theorem sorted_go {v : Value} {kw : List (Str × Value)} {A : Around} {E : Value → Shared → Prop} {Q : Value → Shared → Prop} {st : Shared} (ha1 : argsOk "sorted" ⟨[v], kw⟩) (ha2 : ∀ y, argsOk "list.sort" ⟨[.ref y], kw⟩)
    (h : wpAny (model X.prog X.w) A.in1 (collect v) (fun acc s1 => acc.length ≤ sizeLine ∧ ∀ E', wpAny (model X.prog X.w) A.in1.in1 (Builtin.«list.sort» ⟨[.ref s1.heap.objs.size], kw⟩) (fun f s' => f = .done (.ret .none) ∧ Q (.ref s1.heap.objs.size) s') E' { s1 with heap := s1.heap.push (seqObj "list" acc.toArray 0) }) E st) :
    wpAny (model X.prog X.w) A (call (.builtin "sorted") [v] kw) Q E st := by
  refine call_function_entry_kw kind_sorted plain_sorted entry_sorted ha1 ?_
  unfold Builtin.«sorted»
  refine wpAny_bind (m := checkCount "sorted" 1 1 _) (wpAny_pure ?_)
  refine wpAny_bind (wpAny_mono h (fun acc s1 ⟨hz, hb⟩ => ?_) fun _ _ z => z)
  refine wpAny_bind (wpAny_newList ?_ hz)
  refine wpAny_bind (wpAny_holding (wpAny_call_entry_kw slot_list_sort ⟨_, Heap.get?_push_size _ rfl, rfl⟩ entry_list_sort ?_ (ha2 _)))
  refine wpAny_mono (hb _) (fun f s' hf => ?_) fun _ _ z => z
  obtain ⟨rfl, hq⟩ := hf
  exact ⟨_, rfl, wpAny_pure ⟨_, rfl, hq⟩⟩
def rSortK (X : Cx) (T : Tb) (f : Addr) (F : Fn) : List V → List V → Hp → VK → Prop := fun xs zs H Q => ∃ x us G sto ds kds s2, xs = [x] ∧ zs = [.ref f] ∧ CollV X.K H x us ∧ StR X.w X.K T [] H G (bareS sto) ∧ RepL X.w X.K H G us ds ∧ keysF F ds sto = .ok kds s2 ∧ keysOk kds = true ∧ ds.length ≤ line ∧
  ∀ p H' G' us', Stp [] H G (bareS sto) [] H' G' (bareS s2.sto) → StR X.w X.K T [] H' G' (bareS s2.sto) → H p = none → H' p = none → RepL X.w X.K H' G' us' (sortBy ds kds) → Q (.ref p) (upd H' p (.lst us'))
theorem cr_sortK {k : Nat} {f : Addr} {fd : FuncData} {ps : List Str} {F : Fn} (hc : X.calm = true) (hF : FnG X.prog X.w X.K X.mg X.base k f fd ps (spG X.w X.K T F)) (hr : RoomG (k + 2) X.A) (hb : Binds X.K fd ps []) : CallRK X (.builtin "sorted") [Str.ofString "key"] (rSortK X T f F) := by
  intro pins st σ H xs zs us ws Q I rx rz ⟨x, xu, G, sto, ds, kds, s2, e1, e2, hcol, J, rd, hk, hok, hz, q⟩
  subst e1 e2
  obtain ⟨v, rfl, rv⟩ := rx.one
  obtain ⟨z, rfl, rz1⟩ := rz.one
  obtain rfl : z = Value.ref f := rz1
  show wpAny _ _ (call (.builtin "sorted") [v] [(Str.ofString "key", .ref f)]) _ _ _
  refine sorted_go (X := X) (PyProof.Rows.ksk_s1 _ _) (fun y => PyProof.Rows.ksk_l1 _ _) (coll_run hc I rv hcol fun acc h' tk ra hl kp => ⟨hl, fun E' => ?_⟩)
  rw [PyProof.Rows.ksk_t1]
  have I1 : Inv X pins σ H { st with heap := h', toks := tk } := I.kept kp
  have hLn : H h'.objs.size = none := I1.hok.fresh (Nat.le_refl _)
  have fL : FpOk X pins H h'.objs.size := I1.fpOk (Nat.le_refl _) hLn
  have ho : (h'.push (seqObj "list" acc.toArray 0)).get? h'.objs.size = some (seqObj "list" acc.toArray 0) := Heap.get?_push_size _ rfl
  unfold ksk_tree
  refine wpAny_bind (listItems_at ho rfl ?_)
  refine wpAny_bind (listUpdate_at ho rfl ?_ (by rw [List.size_toArray]; exact hl) (Nat.zero_le _))
  obtain ⟨e1, ho1⟩ : ∃ e1, ((h'.push (seqObj "list" acc.toArray 0)).update h'.objs.size (Obj.mapSeq fun _ => (#[] : Array Value))).get? h'.objs.size = some (seqObj "list" #[] e1) := ⟨_, get?_update_seq ho fun _ => #[]⟩
  refine wpAny_bind (seqEpoch_at ho1 rfl ?_)
  refine wpAny_bind (wpAny_newTuple ?_ (by show acc.length ≤ _; exact hl))
  refine wpAny_bind (wpAny_newList ?_ (Nat.zero_le _))
  refine wpAny_holding ?_
  have I2 : Inv X pins σ H { st with heap := h'.push (seqObj "list" acc.toArray 0), toks := tk } := I1.kept (t' := tk) fun b o z => Heap.get?_push_of_some _ z
  have sb := Heap.SameBut.update (h'.push (seqObj "list" acc.toArray 0)) h'.objs.size (Obj.mapSeq fun _ => (#[] : Array Value))
  have I3 : Inv X pins σ H { st with heap := (h'.push (seqObj "list" acc.toArray 0)).update h'.objs.size (Obj.mapSeq fun _ => (#[] : Array Value)), toks := tk } := I2.turned (t' := tk) (fun b o hb z => (sb.2 b hb).trans z) fL.1 fL.2.1 fL.2.2.2.1 fL.2.2.2.2.1 fL.2.2.2.2.2
  generalize hg : (h'.push (seqObj "list" acc.toArray 0)).update h'.objs.size (Obj.mapSeq fun _ => (#[] : Array Value)) = g at ho1 I3 ⊢
  have I4 : Inv X pins σ H { st with heap := g.push (seqObj "tuple" acc.toArray 0), toks := tk } := I3.kept (t' := tk) fun b o z => Heap.get?_push_of_some _ z
  have hkn : H (g.push (seqObj "tuple" acc.toArray 0)).objs.size = none := I4.hok.fresh (Nat.le_refl _)
  have fK : FpOk X pins H (g.push (seqObj "tuple" acc.toArray 0)).objs.size := I4.fpOk (Nat.le_refl _) hkn
  have I5 : Inv X pins σ H { st with heap := (g.push (seqObj "tuple" acc.toArray 0)).push (seqObj "list" #[] 0), toks := tk } := I4.kept (t' := tk) fun b o z => Heap.get?_push_of_some _ z
  have gL : h'.objs.size < g.objs.size := Heap.lt_size ho1
  refine keys_run (T := T) (A := X.A.in1.in1) hF hr.in1.in1 rfl hb (by have := hr.r.un; show X.A.units + 1 + 1 + 60 < cLine; omega) I5 J ra rd hk hok hz (Heap.get?_push_of_some _ (Heap.get?_push_of_some _ ho1)) (Heap.get?_push_size _ rfl) fL fK (Nat.ne_of_gt (Nat.lt_of_lt_of_le gL (by rw [Heap.size_push]; exact Nat.le_succ _)))
    fun H' G' us' out c st' I' b' J' na' rv' rr' hat => ⟨rfl, ?_⟩
  exact ⟨.ref h'.objs.size, _, I', rfl, q _ H' G' us' b' J' hLn na' rr'⟩
/-- what gives items -/
abbrev Cx' := S → R (List D)
def tCo (w : World) (K : PySem.W.Frag) (T : Tb) (W : Wi) (f : Cx') : TE := fun σ H Q => ∃ G s, StR w K T σ H G s ∧ (f s).holds (fun ds s' => ∀ H' G' x us, Stp σ H G s σ H' G' s' → StR w K T σ H' G' s' → CollV K H' x us → RepL w K H' G' us ds → Q x H') (PX w K T W σ H G s)
def SCo (X : Cx) (T : Tb) (W : Wi) (e : Expr) (f : Cx') : Prop := PE X e (tCo X.w X.K T W f)
def itemsC (f : Ex) : Cx' := fun s => (f s).bind fun d s => match d with
  | .scr xs => .ok (xs.map D.int) s
  | d => (match content s d with
    | some (.L xs) => .ok xs s
    | some (.M kvs) => .ok (kvs.map (·.1)) s
    | _ => .bad)
theorem sco_of {e : Expr} {f : Ex} (h : SO X T W e f) : SCo X T W e (itemsC f) := by
  refine PE.imp h fun σ H Q ⟨G, s, I, q⟩ => ?_
  refine tO_bind I q fun d s1 H1 G1 v b J r q => ?_
  have co : (match content s1 d with
    | some (.L xs) => R.ok xs s1
    | some (.M kvs) => R.ok (kvs.map fun p : D × D => p.1) s1
    | _ => .bad).holds (fun ds s' => ∀ H' G' x us, Stp σ H G s σ H' G' s' → StR X.w X.K T σ H' G' s' → CollV X.K H' x us → RepL X.w X.K H' G' us ds → Q x H') (PX X.w X.K T W σ H G s) → Q v H1 := fun q => by
    cases c : content s1 d with
    | none => rw [c] at q; exact q.elim
    | some co =>
      rw [c] at q
      cases co with
      | L xs =>
        obtain ⟨a, vs, rfl, h1, h2⟩ := content_L J r c
        exact q _ _ _ _ b J (.inl ⟨a, rfl, .inl (.inl h1)⟩) h2
      | M kvs =>
        obtain ⟨a, es, rfl, h1, h2, h3⟩ := content_M J r c
        obtain ⟨us, k1, k2⟩ := h2.keysV
        exact q _ _ _ _ b J (.inr (.inl ⟨a, es, rfl, h1, k1⟩)) k2
      | I _ _ => exact q.elim
      | K _ => exact q.elim
  cases d with
  | scr xs =>
    cases r with
    | scr h => exact q _ _ _ _ b J (.inl ⟨_, rfl, h.sq⟩) (RepL.ints xs)
  | _ => exact co q
def valsC (f : Ex) : Cx' := fun s => (f s).bind fun d s => match content s d with
  | some (.M kvs) => .ok (kvs.map (·.2)) s
  | _ => .bad
theorem vw_ok {P : Program} {w : World} {H' : Hp} {h : Heap} {d : Addr} : ObjOk P w H' (h.push { cls := .type "dict_values", data := .fields #[.ref d] }) h.objs.size (vwHO h.objs.size d) := by
  have e := Heap.get?_push_size (o := ({ cls := .type "dict_values", data := .fields #[.ref d] } : Obj)) h rfl
  exact ⟨e, ⟨_, e⟩, fun _ _ z k => k _ z⟩
theorem sco_values {e : Expr} {f : Ex} {apos cpos : Pos} (h : SO X T W e f) (hb : attributeBase e "values" X.env (eval e X.env) = eval e X.env := by rfl) (hl : (apos.endLine == cpos.line) = true := by rfl) : SCo X T W (.Call (.Attribute e "values" apos) [] [] cpos) (valsC f) := by
  refine ⟨fun pins st σ H Q I ⟨G, s, J, q⟩ => ?_⟩
  have hh : tO X.w X.K T W f σ H fun x H1 => ∃ a de, x = .ref a ∧ H1 a = some (dictHO a de) ∧ ∀ p, H1 p = none → Q (.ref p) (upd H1 p (vwHO p a)) := by
    refine tO_bind J q fun d s1 H1 G1 v b J1 r q => ?_
    cases c : content s1 d with
    | none => simp only [c] at q; exact q.elim
    | some co =>
      simp only [c] at q
      cases co with
      | M kvs =>
        obtain ⟨a, es, rfl, h1, h2, h3⟩ := content_M J1 r c
        obtain ⟨us, k1, k2⟩ := h2.valsV
        refine ⟨a, es, rfl, h1, fun p hp => ?_⟩
        have b2 : Stp σ H1 G1 s1 σ (upd H1 p (vwHO p a)) G1 s1 := Stp.fresh0 hp
        refine q _ _ _ _ (b.trans b2) (J1.fresh0 hp) (.inr (.inr ⟨p, a, es, rfl, upd_same, ?_, k1⟩)) (k2.kp (J1.kp b2))
        rw [upd_ne (ne_of_none h1 hp)]
        exact h1
      | L _ => exact q.elim
      | I _ _ => exact q.elim
      | K _ => exact q.elim
  refine wpAny_Call_method (T := "dict") (id := "dict.values") hb rfl hl F.plainAttrs_dict F.slot_dict_values F.type_dict_values (thn (h.run pins st σ H _ I hh) fun u t1 ⟨x, H1, I1, rx, a, de, ex, ha, hR⟩ => ?_)
  subst ex
  cases rx
  obtain ⟨hs, _, raw⟩ := dct_raw I1 ha
  obtain ⟨k1, k2⟩ := tyG_is I1 (x := V.ref a) rfl (.inr ⟨rfl, a, de, rfl, ha⟩ : tyG X.K "dict" (.ref a) H1)
  refine ⟨k1, k2, ?_⟩
  have hf := I1.hok.fresh (Nat.le_refl t1.heap.objs.size)
  have fin : EP X pins σ Q (.ref t1.heap.objs.size) { t1 with heap := t1.heap.push { cls := .type "dict_values", data := .fields #[.ref a] } } := ⟨.ref _, _, I1.laid (t' := t1.toks) (o := vwHO t1.heap.objs.size a) (fun b ob z => Heap.get?_push_of_some _ z) (Nat.le_refl _) vw_ok, rfl, hR _ hf⟩
  show wpAny _ _ (callWith cpos (.builtin "dict.values") [.ref a] [] []) _ X.xe t1
  exact method_meetsIn F.slot_dict_values F.entry_dict_values rfl (PySem.evalArgs_none ⟨rfl, k1, F.args_dict_values_1 _, _, meets_dict_values_raw a hs, ⟨_, _, raw⟩, fin⟩)
def sortKF (F : Fn) (f : Cx') : Fx := fun s => (f s).bind fun ds s => match keysF F ds s.sto with
  | .ok kds s2 => if keysOk kds && Nat.ble ds.length line then .ok (.L (sortBy ds kds)) { s with sto := s2.sto } else .bad
  | _ => .bad
/-- sorted(e, key=f) -/
theorem sf_sortK {k : Nat} {fa : Addr} {fd : FuncData} {ps : List Str} {F : Fn} {e : Expr} {f : Cx'} {p p2 kpos : Pos} {fn : Str} (hc : X.calm = true) (hF : FnG X.prog X.w X.K X.mg X.base k fa fd ps (spG X.w X.K T F)) (hr : RoomG (k + 2) X.A) (hb : Binds X.K fd ps []) (hg : Gl X "sorted") (hm : X.mg "sorted" = none) (hgf : Gl X fn) (hmf : X.mg fn = some (.ref fa)) (he : SCo X T W e f) (hdf : (fn == ("__debug__" : Str)) = false := by decide)
    (h1 : starEach [e] X.env = (false, eval e X.env) :: starEach [] X.env := by rfl) (h2 : backTo pos (starEach [e] X.env) = (false, eval e X.env) :: backTo pos (starEach [] X.env) := by rfl) (h3 : (backTo pos (starEach [e] X.env)).any (·.1) = false := by rfl)
    (h4 : (backToKw pos (keywordEach [⟨some "key", .Name fn p2, kpos⟩] X.env)).all (·.1.isSome) = true := by rfl) (h5 : (backToKw pos (keywordEach [⟨some "key", .Name fn p2, kpos⟩] X.env)).any (·.1.isNone) = false := by rfl) (h6 : (backToKw pos (keywordEach [⟨some "key", .Name fn p2, kpos⟩] X.env)).filterMap (·.1) = [Str.ofString "key"] := by rfl) :
    SF X T W (.Call (.Name "sorted" p) [e] [⟨some "key", .Name fn p2, kpos⟩] pos) (sortKF F f) := by
  refine PE.imp (pe_callBK (cr_sortK (T := T) hc hF hr hb) hg hm boot_sorted (pa_cons he pa_nil h1) (pk_cons (pe_glob (v := V.ref fa) hgf hmf rfl hdf) pk_nil) (by decide) (by decide) h2 h3 h4 h5 h6) fun σ H Q ⟨G, s, I, q⟩ => ?_
  refine ⟨G, s, I, ?_⟩
  unfold sortKF at q
  cases e1 : f s with
  | exc c d s1 => rw [e1] at q; exact q
  | bad => rw [e1] at q; exact q
  | ok ds s1 =>
    rw [e1] at q
    intro H1 G1 x us b1 J1 hcol hrd
    have q : (match keysF F ds s1.sto with
      | .ok kds s2 => if keysOk kds && Nat.ble ds.length line then R.ok (Co.L (sortBy ds kds)) { s1 with sto := s2.sto } else .bad
      | _ => .bad).holds (PF X.w X.K T Q σ H G s) (PX X.w X.K T W σ H G s) := q
    cases e2 : keysF F ds s1.sto with
    | exc c d s2 => rw [e2] at q; exact q.elim
    | bad => rw [e2] at q; exact q.elim
    | ok kds s2 =>
      rw [e2] at q
      simp only at q
      split at q
      · rename_i hok
        rw [Bool.and_eq_true, Nat.ble_eq] at hok
        refine ⟨x, us, G1, s1.sto, ds, kds, s2, rfl, rfl, hcol, J1.bare, hrd, e2, hok.1, hok.2, fun p H' G' us' b' J' hp hp' rr => ?_⟩
        obtain ⟨J2, b2⟩ := J1.after b' J'
        have nF : ¬ G'.F p := fun z => by
          obtain ⟨o, z⟩ := J'.frs p z
          rw [hp'] at z; cases z
        have nT : ¬ Tch σ G' { s1 with sto := s2.sto } p := fun z => by
          obtain ⟨c, z, _⟩ := J2.tch z
          obtain ⟨o, z⟩ := z.some
          rw [hp'] at z; cases z
        have b3 : Stp σ H' G' { s1 with sto := s2.sto } σ (upd H' p (.lst us')) G' { s1 with sto := s2.sto } := Stp.fresh0 hp'
        exact q _ _ _ ((b1.trans b2).trans b3) (J2.fresh0 hp') ⟨us', upd_same, rr.kp (J2.kp b3)⟩ (b1.dm p hp) nF nT
      · exact q.elim
end
end G

set_option Elab.async false
set_option linter.all false
set_option maxRecDepth 100000
set_option maxHeartbeats 4000000
namespace G
open PySem PySem.Spec PyProof.Rows L2

/-! ### repr -/
def shw (d : D) : List Nat := (py d).shown.cps.toList
def reprO : Op := fun ds s => match ds with
  | [d] => if dat 50 (view s d) && (py (view s d)).showable && Nat.ble (shw (view s d)).length line then .ok (.str (shw (view s d))) s else .bad
  | _ => .bad
section
variable {X : Cx} {T : Tb} {W : Wi}
abbrev rRepr (K : PySem.W.Frag) : List V → Hp → VK → Prop := fun xs H Q => ∃ x p, xs = [x] ∧ Dp K H x p ∧ p.showable = true ∧ p.hasDict = false ∧ p.depth ≤ 50 ∧ p.shown.length ≤ sizeLine ∧ Q (.str p.shown) H
theorem call_repr (hg : X.A.guards = some []) (hu : X.A.units + 64 < cLine) : CallR X (.builtin "repr") (rRepr X.K) := by
  intro pins st σ H xs us Q I r ⟨x, p, e, hd, hs, hnd, hdep, hsz, q⟩
  subst e
  obtain ⟨u, rfl, rv⟩ := r.one
  have fin : ∀ (h' : Heap) (t tk : Nat), (∀ b o, st.heap.get? b = some o → h'.get? b = some o) → EP X pins σ Q (.str p.shown t) { st with heap := h', toks := tk } := fun h' t tk hk => ⟨.str p.shown, H, I.kept hk, ⟨t, rfl⟩, q⟩
  obtain ⟨as, rd⟩ := Dp.reads I p x u hd rv
  cases rd with
  | none => exact PySem.P.repr_of_none (fin _ _ _ fun _ _ e => e)
  | bool b => exact PySem.P.repr_of_bool (fin _ _ _ fun _ _ e => e)
  | int i t => exact PySem.P.repr_of_int (by simpa [PyData.showable] using hs) (fin _ _ _ fun _ _ e => e)
  | str x t => exact PySem.P.repr_of_str (fin _ _ _ fun _ _ e => e) hsz
  | list h1 h2 h3 h4 => exact repr_of_reads' (.list h1 h2 h3 h4) hs (PyData.noDict_hsm hnd) hg (by omega) (fun _ _ e => e) fin hsz
  | tuple h1 h2 h3 h4 => exact repr_of_reads' (.tuple h1 h2 h3 h4) hs (PyData.noDict_hsm hnd) hg (by omega) (fun _ _ e => e) fin hsz
  | dict h1 h2 h3 h4 h5 => exact absurd hnd (by simp [PyData.hasDict])
theorem repr_ok : OpOk X T W reprO (rRepr X.K) := fun σ H G s xs ds Q I r q => by
  unfold reprO at q
  split at q
  · rename_i d
    split at q
    · rename_i hc
      simp only [Bool.and_eq_true, Nat.ble_eq] at hc
      obtain ⟨⟨h1, h2⟩, h3⟩ := hc
      cases xs with
      | nil => exact r.elim
      | cons x xs =>
        cases xs with
        | cons y ys => exact r.2.elim
        | nil =>
          obtain ⟨z1, z2⟩ := dat_canLay 50 _ h1
          refine ⟨x, py (view s d), rfl, view_dp I r.1 h1, h2, PyData.hasDict_of_canLay _ z1, z2, ?_, ?_⟩
          · rw [line_eq]
            refine Nat.le_trans (Nat.le_of_eq ?_) h3
            show (py (view s d)).shown.cps.size = _
            simp [shw]
          · have e : (py (view s d)).shown = toStr (shw (view s d)) := by
              show _ = (⟨_⟩ : Str)
              simp [shw]
            rw [e]
            exact q _ _ _ Stp.refl I (.str _)
    · exact q.elim
  · exact q.elim
end
end G

set_option Elab.async false
set_option linter.all false
set_option maxRecDepth 100000
set_option maxHeartbeats 4000000
namespace G
open PySem PySem.Spec PyProof.Rows L2
open PySem.W (TotalLe sameRank sort_unique EachIs dataLe AllAlike Sortable KeyedOut keyedOut_each alike)

/-! ### sorted, without a key -/
section
variable {X : Cx} {T : Tb} {W : Wi} {pos : Pos}
def rSort0 (X : Cx) : List V → Hp → VK → Prop := fun xs H Q => ∃ x us G ds, xs = [x] ∧ CollV X.K H x us ∧ RepL X.w X.K H G us ds ∧ keysOk ds = true ∧ ds.length ≤ line ∧
  ∀ p us', H p = none → RepL X.w X.K H G us' (sortBy ds ds) → Q (.ref p) (upd H p (.lst us'))
theorem cr_sort0 (hc : X.calm = true) (hu : X.A.units + 62 < cLine) : CallR X (.builtin "sorted") (rSort0 X) := by
  intro pins st σ H xs us Q I rx ⟨x, xu, G, ds, e1, hcol, rd, hok, hz, q⟩
  subst e1
  obtain ⟨v, rfl, rv⟩ := rx.one
  show wpAny _ _ (call (.builtin "sorted") [v] []) _ _ _
  refine sorted_go (X := X) (PyProof.Rows.args_sorted1 _) (fun y => PyProof.Rows.args_list_sort _) (coll_run hc I rv hcol fun acc h' tk ra hl kp => ⟨hl, fun E' => ?_⟩)
  have I1 : Inv X pins σ H { st with heap := h', toks := tk } := I.kept kp
  have hLn : H h'.objs.size = none := I1.hok.fresh (Nat.le_refl _)
  have fL : FpOk X pins H h'.objs.size := I1.fpOk (Nat.le_refl _) hLn
  have ho : (h'.push (seqObj "list" acc.toArray 0)).get? h'.objs.size = some (seqObj "list" acc.toArray 0) := Heap.get?_push_size _ rfl
  have I2 : Inv X pins σ H { st with heap := h'.push (seqObj "list" acc.toArray 0), toks := tk } := I1.kept (t' := tk) fun b o z => Heap.get?_push_of_some _ z
  obtain ⟨al, so, dt⟩ := keysOk_all hok
  -- the heap while it is sorted
  have I3 : Inv X pins σ H { st with heap := PySem.W.sortingHeap (h'.push (seqObj "list" acc.toArray 0)) h'.objs.size acc, toks := tk } := I2.turned (t' := tk) (fun b o hb z => PySem.W.sortingHeap_old hb z) fL.1 fL.2.1 fL.2.2.2.1 fL.2.2.2.2.1 fL.2.2.2.2.2
  have hdp : DpAll X.K H xu (pys ds) := RepL.dp 50 rd dt
  obtain ⟨as, hreads⟩ := Dp.readsAll I3 (pys ds) xu acc hdp ra
  rw [pys_map] at hreads
  have hE := readsAll_eachIs hreads
  have hud : ∀ d, d ∈ ds.map py → X.A.in1.in1.units + d.depth < cLine := fun d hd => by
    obtain ⟨y, hy, rfl⟩ := List.mem_map.mp hd
    have := (dat_canLay 50 y (List.all_eq_true.mp dt y hy)).2
    show X.A.units + 1 + 1 + _ < cLine
    omega
  have S := PySem.W.SortsAt.data (prog := X.prog) (w := X.w) (A := X.A.in1.in1) hE al so hud
  refine PySem.W.list_sort_vals (s := { st with heap := h'.push (seqObj "list" acc.toArray 0), toks := tk }) ho S hl ⟨rfl, ?_⟩
  have hlen : ds.length = ds.length := rfl
  have hko : KeyedOut false (ds.map py) acc (PySem.W.sortVals (PySem.W.dataKind (PySem.W.sortingHeap (h'.push (seqObj "list" acc.toArray 0)) h'.objs.size acc) (ds.map py)) false acc acc) := ⟨_, acc, al, rfl, hE⟩
  have hR : EachIs (fun (u : Value) (p : D × D) => ∃ x, RelV x u ∧ Rep X.w X.K H G x p.1) acc (ds.zip ds) := zip_eachIs ra rd rfl
  have ez : ds.map py = (ds.zip ds).map (fun p => py p.2) := by
    have z : ((ds.zip ds).map Prod.snd).map py = ds.map py := by rw [List.map_snd_zip (Nat.le_refl _)]
    rw [List.map_map] at z
    exact z.symm
  generalize PySem.W.sortVals (PySem.W.dataKind (PySem.W.sortingHeap (h'.push (seqObj "list" acc.toArray 0)) h'.objs.size acc) (ds.map py)) false acc acc = out at hko ⊢
  have hol : out.length = acc.length := PySem.W.KeyedOut.length hko (by rw [List.length_map, ← ra.length, rd.length])
  rw [ez] at hko
  have hout := keyedOut_each (fun p : D × D => py p.2) hko hR
  rw [← insSort_eq (dataLe_total _)] at hout
  have fin : ∀ {out : List Value} {bs : List (D × D)}, EachIs (fun (u : Value) (p : D × D) => ∃ x, RelV x u ∧ Rep X.w X.K H G x p.1) out bs → ∃ us, Vals us out ∧ RepL X.w X.K H G us (bs.map (·.1)) := fun {out bs} e => by
    induction e with
    | nil => exact ⟨[], .nil, .nil⟩
    | cons q _ ih =>
      obtain ⟨x, q1, q2⟩ := q
      obtain ⟨us, z1, z2⟩ := ih
      exact ⟨x :: us, .cons q1 z1, .cons q2 z2⟩
  obtain ⟨us, z1, z2⟩ := fin hout
  obtain ⟨c, hat⟩ := sortedHeap_at (vs := acc) (out := out.toArray) ho
  have I4 : Inv X pins σ (upd H h'.objs.size (.lst us)) { st with heap := sortedHeap (h'.push (seqObj "list" acc.toArray 0)) h'.objs.size acc out.toArray, toks := tk } :=
    I2.take (t' := tk) (fun b o hb z => (sortedHeap_old hb (Heap.lt_size z)).trans z) fL ⟨by rw [z1.length, hol]; exact hl, _, c, z1, by simpa using hat⟩
  exact ⟨.ref h'.objs.size, _, I4, rfl, q _ us hLn z2⟩
def sort0F (f : Cx') : Fx := fun s => (f s).bind fun ds s => if keysOk ds && Nat.ble ds.length line then .ok (.L (sortBy ds ds)) s else .bad
/-- sorted(e) -/
theorem sf_sort0 {e : Expr} {f : Cx'} {p : Pos} (hc : X.calm = true) (hu : X.A.units + 62 < cLine) (hg : Gl X "sorted") (hm : X.mg "sorted" = none) (he : SCo X T W e f)
    (h1 : starEach [e] X.env = (false, eval e X.env) :: starEach [] X.env := by rfl) (h3 : (backTo pos (starEach [] X.env)).any (·.1) = false := by rfl) : SF X T W (.Call (.Name "sorted" p) [e] [] pos) (sort0F f) := by
  refine PE.imp (pe_callB (cr_sort0 hc hu) hg hm boot_sorted (pa_cons he pa_nil h1) (by decide) (by decide) h1 h3) fun σ H Q ⟨G, s, I, q⟩ => ?_
  refine ⟨G, s, I, ?_⟩
  unfold sort0F at q
  cases e1 : f s with
  | exc c d s1 => rw [e1] at q; exact q
  | bad => rw [e1] at q; exact q
  | ok ds s1 =>
    rw [e1] at q
    intro H1 G1 x us b1 J1 hcol hrd
    have q : (if keysOk ds && Nat.ble ds.length line then R.ok (Co.L (sortBy ds ds)) s1 else .bad).holds (PF X.w X.K T Q σ H G s) (PX X.w X.K T W σ H G s) := q
    split at q
    · rename_i hok
      rw [Bool.and_eq_true, Nat.ble_eq] at hok
      refine ⟨x, us, G1, ds, rfl, hcol, hrd, hok.1, hok.2, fun p us' hp rr => ?_⟩
      exact pf_new (c := .L (sortBy ds ds)) I b1 J1 hp (fun k => ⟨us', upd_same, rr.kp k⟩) q
    · exact q.elim
end
end G

set_option Elab.async false
set_option linter.all false
set_option maxRecDepth 100000
set_option maxHeartbeats 4000000
namespace G
open PySem PySem.Spec PyProof.Rows L2

/-! ### a law's end -/
/-- what the law's def promises, at the heap behind the top -/
theorem law_go {P : Program} {w : World} {K : PySem.W.Frag} {mg mb : Str → Option Value} {k : Nat} {fa a : Addr} {fd : FuncData} {x : Str} {sp : Sp} {t : Shared} {us : List Value} {ns : List Int}
    (KX : K.In t.heap) (h1 : t.heap.Ns mainGlobals mg) (h2 : t.heap.Ns builtinsNs mb) (h3 : ∀ x : Str, x ≠ "__name__" → mb x = bootBuiltins x) (h4 : t.heap.NoLimit) (h5 : t.gens = #[])
    (ho : t.heap.get? a = some { cls := .type "list", data := .seq us.toArray }) (hi : IntsAre us ns) (hl : ns.length ≤ sizeLine) (hr : RoomG k callerA)
    (F : ∀ base : Heap, K.In base → base.Ns mainGlobals mg → FnG P w K mg base k fa fd [x] sp) (hb : ∀ (s : Shared) (u : Value), BindsTo s fd ⟨[u], []⟩ [(x, u)])
    (hq : ∀ H : Hp, Only H → ScrR K H a ns → sp [.ref a] H (fun v _ => v = .bl true) E0) :
    codeAny (model P w) callerA (.call (.ref fa) ⟨[.ref a], []⟩) (fun r z => r = .ok (.ret (.bool true)) ∧ OldK t.heap z.heap ∧ z.os = t.os ∧ AllBare z.gens) t := by
  have rv := vals_ints hi
  have hlen := hi.length
  have go : ∀ H : Hp, Only H → ScrR K H a ns → HOk P w H t.heap → (∀ b, H b ≠ none → b = a) → (H a ≠ none → K.lookup a = none) →
      codeAny (model P w) callerA (.call (.ref fa) ⟨[.ref a], []⟩) (fun r z => r = .ok (.ret (.bool true)) ∧ OldK t.heap z.heap ∧ z.os = t.os ∧ AllBare z.gens) t := fun H hO hS hok hA hK => by
    have free : ∀ b, b ≠ a → H b = none := fun b n => by
      cases q : H b with
      | none => rfl
      | some u => exact (n (hA b (by rw [q]; exact fun z => nomatch z))).elim
    have noD : ∀ {b : Addr} {o : Obj} {es : Array DictEntry} {ep : Nat}, t.heap.get? b = some o → o.data = .dict es ep → H b = none := fun {b o es ep} e d => free b fun z => by
      rw [z, ho] at e
      cases e
      cases d
    have ns1 : ∀ {b : Addr} {m : Str → Option Value}, t.heap.Ns b m → (hidT t.heap H).Ns b m := fun {b m} ⟨o, es, ep, e, d, r⟩ => ⟨o, es, ep, hidT_get e (noD e d), d, r⟩
    have kb : K.In (hidT t.heap H) := fun b o e => hidT_get (KX b o e) (by
      by_cases n : b = a
      · cases q : H b with
        | none => rfl
        | some u =>
          rw [n] at q e
          rw [hK (by rw [q]; exact fun z => nomatch z)] at e
          cases e
      · exact free b n)
    have md : Mod K mg (hidT t.heap H) := ⟨kb, ns1 h1, ⟨mb, ns1 h2, h3⟩, let ⟨mc, z1, z2⟩ := h4; ⟨mc, ns1 z1, z2⟩⟩
    have nil : ∀ b : Addr, b ∉ ([] : List Addr) := fun b z => nomatch z
    have e0 : Env0 P w K mg (hidT t.heap H) callerA [] t H := ⟨rfl, md, fun b o e => of_hidT e, Nat.le_of_eq (hidT_size _ _), trivial, fun b z => (nil b z).elim, hok, .of_eq h5⟩
    refine codeAny_mono ((F _ kb (ns1 h1)).go callerA [] t H ⟨[.ref a], []⟩ [.ref a] [.ref a] _ hr e0 (hb t (.ref a)) (.cons rfl .nil) (hq H hO hS)) fun r z h => ?_
    cases r with
    | error e => exact h.elim
    | ok fl =>
      cases fl with
      | next => exact h.elim
      | brk => exact h.elim
      | cont => exact h.elim
      | ret u =>
        obtain ⟨v, H2, os, bare, un, hok2, rr, e⟩ := h
        have e : v = .bl true := e
        subst e
        obtain rfl : u = Value.bool true := rr
        refine ⟨rfl, OldK.of_keep fun b o e => ?_, os, bare⟩
        rcases hO b with q | ⟨ob, xs, q⟩
        · exact un.keep b o e q (fun z => nil b z) (by simp)
        · obtain ⟨y1, _⟩ := hok b _ q
          obtain ⟨y2, _⟩ := hok2 b _ (un.frzs b ob _ q)
          rw [e] at y1; cases y1
          exact y2
  cases hk : K.lookup a with
  | some o =>
    have e := KX a o hk
    rw [ho] at e
    cases e
    exact go (fun _ => none) (fun _ => .inl rfl) (.inr ⟨_, us.toArray, _, hk, rfl, rfl, rfl, by rw [List.size_toArray, hlen]; exact hl, by simpa using rv⟩) (fun b u z => by cases z) (fun b z => absurd rfl z) fun z => absurd rfl z
  | none =>
    let HO1 : HO := .frz { cls := .type "list", data := .seq us.toArray } (.lst (ns.map V.int))
    let H1 : Hp := fun b => if b = a then some HO1 else none
    have same : H1 a = some HO1 := if_pos rfl
    have other : ∀ b, b ≠ a → H1 b = none := fun b n => if_neg n
    refine go H1 (fun b => ?_) (.inl ⟨_, same⟩) (fun b u z => ?_) (fun b z => ?_) fun _ => hk
    · by_cases n : b = a
      · exact .inr ⟨_, _, by rw [n]; exact same⟩
      · exact .inl (other b n)
    · by_cases n : b = a
      · rw [n] at z ⊢
        rw [same] at z
        cases z
        exact ⟨ho, by rw [List.length_map]; exact hl, us, _, rv, ho⟩
      · rw [other b n] at z
        cases z
    · by_cases n : b = a
      · exact n
      · exact absurd (other b n) z
theorem walk_g {l : PySem.W.OpenLaw} {n k : Nat} {q : Program} {loose : List Str} {XP : (Str → Option Value) → Heap → Prop} {YP : World → Heap → Prop} {d : DefRec} {x : Str}
    (hn : l.most = some n) (hn2 : n ≤ sizeLine) (hdf : d.params.defaults = []) (hr : RoomG k callerA)
    (F : ∀ (w : World) (mg : Str → Option Value) (fa : Addr) (h : Heap), YP w h → h.Ns mainGlobals mg → mg d.name = some (.ref fa) →
      ∃ (K : PySem.W.Frag) (fd : FuncData) (sp : Sp), K.In h ∧ (∀ (s : Shared) (u : Value), BindsTo s fd ⟨[u], []⟩ [(x, u)]) ∧
        (∀ (H : Hp) (a : Addr) (ns : List Int), ns.length ≤ n → (∀ k ∈ ns, Builtin.Int.intBits k ≤ 1048576) → Only H → ScrR K H a ns → sp [.ref a] H (fun v _ => v = .bl true) E0) ∧
        ∀ base : Heap, K.In base → base.Ns mainGlobals mg → FnG l.prog w K mg base k fa fd [x] sp) :
    PySem.W.WalkO q loose XP YP l.row.toRowW d [] (fun f vs => PySem.call f vs) := by
  refine Att.attach_callB hn hdf fun w s₀ t mg mb fa o pm cd doc a us ns G Y z1 z2 z3 hmg hobj hints hlen hbits hg => ?_
  obtain ⟨K, fd, sp, KX, hb, hsp, hF⟩ := F w mg fa _ Y G.T.g hmg
  exact law_go KX G.T.g G.T.b G.T.builtins G.T.nolimit hg hobj hints (Nat.le_trans hlen hn2) hr hF hb fun H hO hS => hsp H a ns hlen hbits hO hS
/-- a law, as a statement about its function -/
theorem law_sp {w : World} {K : PySem.W.Frag} {T : Tb} {H : Hp} {a : Addr} {ns : List Int} {f : Fn} {sto : List Co} (hS : ScrR K H a ns) (h : ∃ s, f [.scr ns] [] = .ok (.bl true) s) : spG w K T f [.ref a] H (fun v _ => v = .bl true) E0 := by
  obtain ⟨s, h⟩ := h
  refine ⟨⟨fun _ => False, fun _ => 0, 0⟩, [], [.scr ns], ?_, .cons (.scr hS) .nil, ?_⟩
  · refine ⟨rfl, fun i d h => ?_, fun i c h => ?_, fun i j c c' a h => ?_, rfl, fun n c h => ?_, fun n m h => ?_, fun i c n h => ?_, fun a h => h.elim⟩ <;> simp at h
  · rw [h]
    intro H' G' v b J r
    cases r
    rfl
end G

set_option Elab.async false
set_option linter.all false
set_option maxRecDepth 100000
set_option maxHeartbeats 4000000
namespace G
open PySem PySem.Spec PyProof.Rows L2

/-! ### defs by name -/
/-- keywords of a def without defaults -/
theorem kbn_of {K : PySem.W.Frag} {x qual : Str} {params : Arguments} {body : List Stmt} {scope : Scope} {f : Addr} {fd : FuncData} {ps ks : List Str} {n : Nat} {g : List Value → List Value → List Value} {gV : List V → List V → List V} (F : FunD K x qual params body scope [] [] f fd)
    (hg : ∀ us ws vs zs, Vals vs us → Vals zs ws → Vals (gV vs zs) (g us ws))
    (h : ∀ (kV doc pm : Value) (an : Option Addr) (cdv ct : Value) (us ws : List Value), us.length = n → ws.length = ks.length → bindArgs (PySem.W.fnOf x qual params body scope .none kV doc pm an cdv ct) ⟨us, ks.zip ws⟩ = pure (ps.zip (g us ws))) : KBn K fd ps n ks g gV := by
  obtain ⟨oc, od, dV, kV, doc, pm, an, cdv, ct, osl, rfl, lk, hcd, hD, hK⟩ := F.ex
  rcases hD with ⟨_, rfl⟩ | ⟨e, _⟩
  · exact ⟨fun s us ws _ l1 l2 => by
      have := h kV doc pm an cdv ct us ws l1 l2
      exact .of_eq this, fun {vs us zs ws} r1 r2 => hg _ _ _ _ r1 r2⟩
  · exact absurd rfl e
end G

set_option Elab.async false
set_option linter.all false
set_option maxRecDepth 100000
set_option maxHeartbeats 4000000
namespace G
open PySem PySem.Spec PyProof.Rows L2

/-! ### the head: facts of the module's objects; a def may stand anywhere (within a property, too) -/
structure Df where
  loc : PySem.W.Frag → Addr
  name : Str
  qual : Str
  params : Arguments
  body : List Stmt
  scope : Scope
  dfl : List He.Dv := []
def defObs (K : PySem.W.Frag) (a : Addr) : He.FnW := match K.lookup a with
  | some ⟨_, _, .func z, _⟩ => some (z.name, z.qualname, z.params, z.body, z.scope, z.globals, z.closure, z.builtins)
  | _ => none
def Df.told (d : Df) : He.FnW := some (d.name, d.qual, d.params, .stmts d.body, d.scope, mainGlobals, [], builtinsNs)
abbrev Df.dv (d : Df) (K : PySem.W.Frag) : List V := d.dfl.map (He.Dv.v K)
def Df.good (d : Df) (K : PySem.W.Frag) : Bool := PySem.W.keepIn K (.ref (d.loc K)) && (match K.lookup (d.loc K) with
  | some ⟨_, _, .func z, _⟩ => PySem.W.codeIn K z.code d.qual && (He.dflB K z.defaults (d.dv K) && He.kwdB K z.kwdefaults [])
  | _ => false)
theorem Df.fun_ {K : PySem.W.Frag} {d : Df} (e : defObs K (d.loc K) = d.told) (c : d.good K = true) : ∃ fd, FunD K d.name d.qual d.params d.body d.scope (d.dv K) [] (d.loc K) fd := by
  obtain ⟨kp, c2⟩ := He.ba c
  unfold defObs at e
  split at e
  · rename_i oc od z osl q
    rw [q] at c2
    obtain ⟨n1, n2, n3, n4, n5, n6, n7, n8, n9, n10, n11, n12, n13, n14, n15⟩ := z
    simp only [Df.told, Option.some.injEq, Prod.mk.injEq] at e
    obtain ⟨h1, h2, h3, h4, h5, h6, h7, h8⟩ := e
    subst h1 h2 h3 h4 h5 h6 h7 h8
    obtain ⟨k1, k2⟩ := He.ba c2
    obtain ⟨k3, k4⟩ := He.ba k2
    exact ⟨_, ⟨oc, od, n8, n9, n10, n11, n12, n13, n14, osl, rfl, q, k1, He.dflB_ok k3, He.kwdB_ok k4⟩, kp⟩
  · cases e
abbrev AlG : Type := Bool × List He.FnW
def obsH (fa : List He.Fa) (ex : PySem.W.Frag → Bool) (fn : List Df) (K : PySem.W.Frag) : AlG := ((fa.all fun f => f.ok K) && ex K && fn.all fun d => d.good K, fn.map fun d => defObs K (d.loc K))
def valH (fn : List Df) : AlG := (true, fn.map Df.told)
def obsHG (n : Nat) (fa : List He.Fa) (ex : PySem.W.Frag → Bool) (fn : List Df) (g : Addr → Option Obj) : AlG := obsH fa ex fn (He.frG g (He.asD g n))
abbrev Told (fa : List He.Fa) (ex : PySem.W.Frag → Bool) (fn : List Df) (K : PySem.W.Frag) : Prop := obsH fa ex fn K = valH fn
def hookH (n : Nat) (fa : List He.Fa) (ex : PySem.W.Frag → Bool) (fn : List Df) : PySem.W.Hook where
  α := AlG
  obs := fun s => obsHG n fa ex fn s.heap.get?
  val := fun _ => valH fn
  says := fun _ h => ∃ K : PySem.W.Frag, K.In h ∧ Told fa ex fn K
  of := fun _ _ e => ⟨_, He.frG_in, e⟩
  keeps := fun _ _ _ ⟨K, z, c⟩ k => ⟨K, z.keeps k, c⟩
theorem obsHG_eq {n : Nat} {fa : List He.Fa} {ex : PySem.W.Frag → Bool} {fn : List Df} {g : Addr → Option Obj} {s : Shared} (h : ∀ a, g a = s.heap.get? a) : obsHG n fa ex fn g = (hookH n fa ex fn).obs s := by
  obtain rfl : g = s.heap.get? := funext h
  rfl
section
variable {fa : List He.Fa} {ex : PySem.W.Frag → Bool} {fn : List Df} {K : PySem.W.Frag}
theorem Told.all (c : Told fa ex fn K) : ((fa.all fun f => f.ok K) = true ∧ ex K = true) ∧ (fn.all fun d => d.good K) = true := by
  have z := congrArg (·.1) c
  obtain ⟨h1, h2⟩ := He.ba z
  exact ⟨He.ba h1, h2⟩
theorem Told.fact (c : Told fa ex fn K) (i : Nat) {f : He.Fa} (h : fa[i]? = some f := by rfl) : f.ok K = true := List.all_eq_true.mp c.all.1.1 f (List.mem_of_getElem? h)
theorem Told.more (c : Told fa ex fn K) : ex K = true := c.all.1.2
theorem Told.df (c : Told fa ex fn K) (i : Nat) {d : Df} (h : fn[i]? = some d := by rfl) : ∃ fd, FunD K d.name d.qual d.params d.body d.scope (d.dv K) [] (d.loc K) fd := by
  have e : (fn.map fun d => defObs K (d.loc K))[i]? = (fn.map Df.told)[i]? := congrArg (fun z : AlG => z.2[i]?) c
  rw [List.getElem?_map, List.getElem?_map, h] at e
  exact Df.fun_ (Option.some.inj e) (List.all_eq_true.mp c.all.2 d (List.mem_of_getElem? h))
end
/-- the getter of a property, and the property -/
def prA (C m : Str) (K : PySem.W.Frag) : Addr := He.ma K (He.ga K C) m
def geA (C m : Str) (K : PySem.W.Frag) : Addr := match PySem.W.recIn K (prA C m K) "property" with
  | some (.ref g :: _) => g
  | _ => 0
def prB (C m : Str) (K : PySem.W.Frag) : Bool := decide (PySem.W.findIn K (.ref (He.ga K C)) m = some (some (.ref (prA C m K)))) && (decide (PySem.W.specialIn K (.ref (prA C m K)) "__get__" = some (some (.builtin "property.__get__"))) && (decide (PySem.W.takesIn K (.ref (prA C m K)) = some true) && (match PySem.W.recIn K (prA C m K) "property" with
  | some (.ref g :: _) => true
  | _ => false)))
theorem prB_ok {C m : Str} {K : PySem.W.Frag} (h : prB C m K = true) : PropOf K (He.ga K C) m (prA C m K) (geA C m K) := by
  obtain ⟨h1, h2⟩ := He.ba h
  obtain ⟨h3, h4⟩ := He.ba h2
  obtain ⟨h5, h6⟩ := He.ba h4
  refine ⟨of_decide_eq_true h1, of_decide_eq_true h3, of_decide_eq_true h5, ?_⟩
  unfold geA
  split at h6
  · rename_i g r q
    rw [q]
    exact ⟨r, rfl⟩
  · cases h6
/-- what isinstance asks of a class -/
def kiB (C : Str) (K : PySem.W.Frag) : Bool := decide (PySem.W.findIn K (.ref (He.ga K C)) "__class__" = some (some (.builtin "object.__class__"))) && decide (PySem.W.mroIn K (He.ga K C) (.type "object") = some true)
def clB (K : PySem.W.Frag) : Bool := decide (PySem.W.specialIn K (.builtin "object.__class__") "__get__" = some (some (.builtin "getset_descriptor.__get__"))) && decide (PySem.W.takesIn K (.builtin "object.__class__") = some true)
end G

set_option Elab.async false
set_option linter.all false
set_option maxRecDepth 100000
set_option maxHeartbeats 4000000
namespace G
open PySem PySem.Spec PyProof.Rows L2

/-! ### isinstance(x, a built-in type) -/
def ansI (n : String) : Ty → Option Bool
  | .non => some false
  | .bl => some (n == "bool" || n == "int")
  | .int => some (n == "int")
  | .str => some (n == "str")
  | .lst => some (n == "list")
  | .tup => some (n == "tuple")
  | .dct => some (n == "dict")
  | .ins _ => none
theorem ansI_ok {K : PySem.W.Frag} {T : Tb} {n : String} (hn : n = "bool" ∨ n = "int" ∨ n = "str" ∨ n = "list" ∨ n = "tuple" ∨ n = "dict") : ∀ t b, ansI n t = some b → PySem.W.kitOne K (tyVal T t) (.type n) = some b := by
  intro t b h
  rcases hn with rfl | rfl | rfl | rfl | rfl | rfl <;> cases t <;> first | (cases h; done) | (cases h; rfl)
section
variable {X : Cx} {T : Tb} {W : Wi} {pos p q : Pos}
theorem sv_isT {e : Expr} {f : Ex} {n : String} {x : Str} (ki : Ki X.K T) (hn : n = "bool" ∨ n = "int" ∨ n = "str" ∨ n = "list" ∨ n = "tuple" ∨ n = "dict") (hv : bootBuiltins x = some (.type n)) (he : SO X T W e f) (hg : Gl X "isinstance") (hm : X.mg "isinstance" = none) (hg2 : Gl X x) (hm2 : X.mg x = none)
    (h1 : starEach [e, .Name x q] X.env = (false, eval e X.env) :: starEach [.Name x q] X.env := by rfl) (h2 : starEach [.Name x q] X.env = (false, eval (.Name x q) X.env) :: starEach [] X.env := by rfl) (hpl : (backTo pos (starEach [.Name x q] X.env)).any (·.1) = false := by rfl) (hn2 : x ≠ "__name__" := by decide) (hd : (x == ("__debug__" : Str)) = false := by decide) :
    SV X T W (.Call (.Name "isinstance" p) [e, .Name x q] [] pos) (isiE (ansI n) f) :=
  sv_isi ki (.ty n) (ansI_ok hn) he (pe_bltn hg2 hm2 hv rfl hn2 hd) hg hm h1 h2 hpl
end
end G

set_option Elab.async false
set_option linter.all false
set_option maxRecDepth 100000
set_option maxHeartbeats 4000000
namespace G
open PySem PySem.Spec PyProof.Rows L2

/-! ### side conditions by one run -/
def kindIs (o : Option NameKind) (k : NameKind) : Bool := match o, k with
  | some .local, .local => true
  | some .cell, .cell => true
  | some .free, .free => true
  | _, _ => false
theorem kindIs_ok {o : Option NameKind} {k : NameKind} (h : kindIs o k = true) : o = some k := by
  unfold kindIs at h
  split at h <;> first | rfl | cases h
def isK (a b : NameKind) : Bool := kindIs (some a) b
theorem isK_self {k : NameKind} (h : k = .free ∨ k = .local ∨ k = .cell) : isK k k = true := by rcases h with rfl | rfl | rfl <;> rfl
def blkB (N : List Str) (sc scope : Scope) (own : List (Str × Nat)) : Bool :=
  (match scope.kind with | .function => true | _ => false) && ((scope.names.all fun y => decide (scope.names.lookup y.1 = some y.2)) && ((own.all fun p => decide (N[p.2]? = some p.1)) &&
    ((scope.names.all fun y => !isK y.2 .free || (kindIs (sc.names.lookup y.1) .cell || kindIs (sc.names.lookup y.1) .free)) && (scope.names.all fun y => !(isK y.2 .local || isK y.2 .cell) || (decide (y.1 ∈ own.map (·.1)) || decide (y.1 ∉ N))))))
theorem blk_ok {N : List Str} {sc scope : Scope} {own : List (Str × Nat)} (h : blkB N sc scope own = true) : BlkOk N sc scope own := by
  unfold blkB at h
  simp only [Bool.and_eq_true] at h
  obtain ⟨h1, h2, h3, h4, h5⟩ := h
  refine ⟨?_, fun y hy => of_decide_eq_true (List.all_eq_true.mp h2 y hy), fun p hp => of_decide_eq_true (List.all_eq_true.mp h3 p hp), fun y hy e => ?_, fun y hy e => ?_⟩
  · split at h1
    · assumption
    · cases h1
  · have := List.all_eq_true.mp h4 y hy
    rw [e] at this
    have z : isK .free .free = true := rfl
    rw [z] at this
    rcases Bool.or_eq_true_iff.mp (show (kindIs (sc.names.lookup y.1) .cell || kindIs (sc.names.lookup y.1) .free) = true from by simpa using this) with q | q
    · exact .inl (kindIs_ok q)
    · exact .inr (kindIs_ok q)
  · have := List.all_eq_true.mp h5 y hy
    have z : (isK y.2 .local || isK y.2 .cell) = true := by
      rcases e with e | e <;> rw [e] <;> rfl
    rw [z] at this
    rcases Bool.or_eq_true_iff.mp (show (decide (y.1 ∈ own.map (·.1)) || decide (y.1 ∉ N)) = true from by simpa using this) with q | q
    · exact .inl (of_decide_eq_true q)
    · exact .inr (of_decide_eq_true q)
/-- arguments by keywords, put in the parameters' order -/
def permL {α : Type} (ix : List Nat) (us ws : List α) : List α := ix.filterMap fun j => (us ++ ws)[j]?
theorem vals_at {vs : List V} {us : List Value} (r : Vals vs us) : ∀ j : Nat, (vs[j]? = none ∧ us[j]? = none) ∨ ∃ v u, vs[j]? = some v ∧ us[j]? = some u ∧ RelV v u := by
  induction r with
  | nil => intro j; exact .inl ⟨by simp, by simp⟩
  | cons a _ ih =>
    intro j
    cases j with
    | zero => exact .inr ⟨_, _, rfl, rfl, a⟩
    | succ j => simpa using ih j
theorem perm_vals {vs zs : List V} {us ws : List Value} (r : Vals vs us) (r2 : Vals zs ws) : ∀ ix, Vals (permL ix vs zs) (permL ix us ws)
  | [] => .nil
  | j :: ix => by
    have h := perm_vals r r2 ix
    unfold permL at h ⊢
    rcases vals_at (r.append r2) j with ⟨e1, e2⟩ | ⟨v, u, e1, e2, q⟩
    · rw [List.filterMap_cons, List.filterMap_cons, e1, e2]
      exact h
    · rw [List.filterMap_cons, List.filterMap_cons, e1, e2]
      exact .cons q h
theorem repL_at {w : World} {K : PySem.W.Frag} {H : Hp} {G : Wd} : ∀ {vs : List V} {ds : List D}, RepL w K H G vs ds → ∀ j : Nat, (vs[j]? = none ∧ ds[j]? = none) ∨ ∃ v d, vs[j]? = some v ∧ ds[j]? = some d ∧ Rep w K H G v d
  | _, _, .nil, _ => .inl ⟨by simp, by simp⟩
  | _, _, .cons r s, 0 => .inr ⟨_, _, rfl, rfl, r⟩
  | _, _, .cons r s, j + 1 => by simpa using repL_at s j
theorem kord_perm {w : World} {K : PySem.W.Frag} {n m : Nat} (ix : List Nat) : KOrd w K n m (permL ix) (permL ix) := fun H G vs zs ds es _ _ r1 r2 => by
  induction ix with
  | nil => exact .nil
  | cons j ix ih =>
    unfold permL at ih ⊢
    rcases repL_at (r1.append r2) j with ⟨e1, e2⟩ | ⟨v, u, e1, e2, q⟩
    · rw [List.filterMap_cons, List.filterMap_cons, e1, e2]
      exact ih
    · rw [List.filterMap_cons, List.filterMap_cons, e1, e2]
      exact .cons q ih
theorem kbn_perm {K : PySem.W.Frag} {x qual : Str} {params : Arguments} {body : List Stmt} {scope : Scope} {f : Addr} {fd : FuncData} {ps ks : List Str} {n : Nat} (ix : List Nat) (F : FunD K x qual params body scope [] [] f fd)
    (h : ∀ (kV doc pm : Value) (an : Option Addr) (cdv ct : Value) (us ws : List Value), us.length = n → ws.length = ks.length → bindArgs (PySem.W.fnOf x qual params body scope .none kV doc pm an cdv ct) ⟨us, ks.zip ws⟩ = pure (ps.zip (permL ix us ws))) : KBn K fd ps n ks (permL ix) (permL ix) :=
  kbn_of F (fun _ _ _ _ r1 r2 => perm_vals r1 r2 ix) h
/-- the room within a def -/
theorem RoomG.u {k : Nat} {A : Around} (r : RoomG k A) : A.units + 65 < cLine := Nat.lt_of_le_of_lt (by omega) r.r.un
end G
namespace G
open PySem PySem.Spec PyProof.Rows L2
theorem RoomG.un {k : Nat} {A : Around} (r : RoomG k A) (n : Nat) (h : n ≤ 200) : A.units + n < cLine := Nat.lt_of_le_of_lt (by omega) r.r.un
theorem mtR_of {X : Cx} {id : String} {r : V → List V → Hp → VK → Prop} (h : MtM X id r) : MtR X id r := by
  first
    | exact h
    | (intro pins s σ H x vs v us Q I rx rv q; exact h pins s σ H x vs v us Q I rx rv q)
section
variable {X : Cx} {T : Tb} {W : Wi} {pos apos cpos p : Pos} {o e : Expr} {fo fe : Ex}
theorem sv_append (ho : SO X T W o fo) (he : SV X T W e fe)
    (hb : attributeBase o "append" X.env (eval o X.env) = eval o X.env := by rfl)
    (hf : ((backTo cpos (starEach [e] X.env)).all (fun y => !y.1) && (backToKw cpos (keywordEach [] X.env)).all (fun y => y.1.isSome) && decide ([e].length + ([] : List Keyword).length + (if ([] : List Keyword).isEmpty then 0 else 1) < 30)) = true := by rfl)
    (hl : (apos.endLine == cpos.line) = true := by rfl) (h1 : starEach [e] X.env = (false, eval e X.env) :: starEach [] X.env := by rfl) (h2 : (backTo cpos (starEach [] X.env)).any (·.1) = false := by rfl) :
    SV X T W (.Call (.Attribute o "append" apos) [e] [] cpos) (mthE "list" appendM fo (consA fe nilA)) :=
  sv_m append_ok F.plainAttrs_list F.slot_list_append rfl (mtR_of mt_append) ho (sl_cons he sl_nil h1) hb hf hl h1 h2
/-- module constants -/
theorem rep_str {w : World} {K : PySem.W.Frag} {H : Hp} {G : Wd} (x : Str) : Rep w K H G (.str x) (.str x.cps.toList) := by
  have e : toStr x.cps.toList = x := by simp [toStr]
  have z := Rep.str (w := w) (K := K) (H := H) (G := G) x.cps.toList
  rw [e] at z
  exact z
def sc (x : Str) : List Nat := x.cps.toList
theorem sv_gint {x : Str} {i : Int} (hg : Gl X x) (h : ∃ t, X.mg x = some (.int i t)) (hd : (x == ("__debug__" : Str)) = false := by decide) : SV X T W (.Name x pos) (constE (.int i)) := by
  obtain ⟨t, h⟩ := h
  exact sv_glob hg h (v := .int i) ⟨t, rfl⟩ (fun _ _ => .int i) hd
theorem sv_gstr {x z : Str} (hg : Gl X x) (h : ∃ t, X.mg x = some (.str z t)) (hd : (x == ("__debug__" : Str)) = false := by decide) : SV X T W (.Name x pos) (constE (.str (sc z))) := by
  obtain ⟨t, h⟩ := h
  exact sv_glob hg h (v := .str z) ⟨t, rfl⟩ (fun _ _ => rep_str z) hd
theorem sv_gstrL {x z : Str} {cs : List Nat} (hg : Gl X x) (h : ∃ t, X.mg x = some (.str z t)) (hc : z.cps.toList = cs) (hd : (x == ("__debug__" : Str)) = false := by decide) : SV X T W (.Name x pos) (constE (.str cs)) := by
  subst hc
  exact sv_gstr hg h hd
theorem rep_strL {w : World} {K : PySem.W.Frag} {H : Hp} {G : Wd} {x : Str} {cs : List Nat} (hc : x.cps.toList = cs) : Rep w K H G (.str x) (.str cs) := by
  subst hc
  exact rep_str x
theorem sv_cstr {x : Str} {j} : SV X T W (.Constant (.str x) j pos) (constE (.str (sc x))) := sv_str rfl
theorem Dfl.nil {w : World} {K : PySem.W.Frag} : Dfl w K [] [] := fun _ _ => .nil
end
end G
namespace G
open PySem PySem.Spec PyProof.Rows L2
theorem pe_nilA {X : Cx} {T : Tb} {e : Expr} {n m : Nat} {sp : Sp} {gV : List V → List V → List V} {tk : TA} (h : PE X e (tCallN n m sp gV E0 tNil tk)) : PE X e (tCallN n m sp gV E0 (tL X.w X.K T W0 nilA) tk) :=
  PE.imp h fun σ H Q ⟨G, s, I, q⟩ => q _ _ _ Stp.refl I .nil
theorem binds_all {K : PySem.W.Frag} {x qual : Str} {params : Arguments} {body : List Stmt} {scope : Scope} {dvs : List V} {f : Addr} {fd : FuncData} {ps : List Str} {n j : Nat} (F : FunD K x qual params body scope dvs [] f fd) (hd : dvs ≠ []) (hn : (n + (dvs.length - j) = ps.length ∧ dvs.length ≤ j))
    (h : ∀ (T : Addr) (kV doc pm : Value) (an : Option Addr) (cdv ct : Value) (us its : List Value), us.length = n → its.length = dvs.length →
      ∃ k, bindArgs (PySem.W.fnOf x qual params body scope (.ref T) kV doc pm an cdv ct) ⟨us, []⟩ = seqItems? (.ref T) >>= k ∧ k (some its.toArray) = pure (ps.zip (us ++ its.drop j))) : Binds K fd ps [] := by
  obtain ⟨ds, r, b⟩ := F.binds1 n j hd hn.1 h
  rw [List.drop_of_length_le hn.2] at r
  cases r
  exact b
theorem sv_never {X : Cx} {T : Tb} {W : Wi} {e : Expr} : SV X T W e (fun _ => .bad) := ⟨fun pins st σ H Q I ⟨G, s, J, q⟩ => q.elim⟩
end G

set_option Elab.async false
set_option linter.all false
set_option maxRecDepth 100000
set_option maxHeartbeats 4000000
namespace G
open PySem PySem.Spec PyProof.Rows L2
/-! ### len of a dict -/
section
variable {prog : Program} {w : World} {A : Around} {E : Value → Shared → Prop} {st : Shared}
theorem meets_len_raw (p : Addr) (hs : (p == sysModules) = false) :
    MeetsIn prog w (Builtin.«dict.__len__» ⟨[.ref p], []⟩) (fun _ R t => ∃ es ep, t.heap.DictRaw p es ep ∧ R (.ok (.ret (.int es.size t.toks))) { t with toks := t.toks + 1 }) :=
  .of_wp fun A R t ⟨es, ep, ⟨o, h1, h2, h3⟩, h⟩ => by
    show wpAny _ _ (dictSize p >>= _) _ _ t
    unfold dictSize
    refine wpAny_bind (wpAny_bind (wpAny_dictEntries h1 h3 (wpAny_pure ?_)))
    show wpAny _ _ (Builtin.Dict.pendingCount p >>= _) _ _ t
    refine wpAny_bind (wpAny_pendingCount_other hs ?_)
    refine wpAny_ret_mkInt ?_
    rw [Nat.add_zero]
    exact h
theorem call_len_raw {p : Addr} {es : Array DictEntry} {ep : Nat} {Q : Value → Shared → Prop} (hs : (p == sysModules) = false) (hr : st.heap.DictRaw p es ep) (hz : (es.size : Int) < 2 ^ 63)
    (h : Q (.int es.size (st.toks + 1)) { st with toks := st.toks + 1 + 1 }) : wpAny (model prog w) A (call (.builtin "len") [.ref p]) Q E st := by
  have ty : st.TypeIs (.ref p) "dict" := by
    obtain ⟨o, h1, h2, h3⟩ := hr
    exact ⟨o, h1, h2.1⟩
  refine Calls.call_function_entry kind_len plain_len entry_len (args_len1 _) ?_
  unfold Builtin.«len»
  refine wpAny_bind (m := oneArg "len" _) (wpAny_pure ?_)
  refine wpAny_bind (m := callSpecial? (.ref p) (Str.ofString "__len__")) (wpAny_callSpecial?_slot (name := Str.ofString "__len__") ty F.slot_dict_len (call_meetsIn F.slot_dict_len ty F.entry_dict_len (F.args_dict_len_1 _) (meets_len_raw p hs) ⟨es, ep, hr, ?_⟩))
  show wpAny _ _ _ _ _ { st with toks := st.toks + 1 }
  refine wpAny_bind (wpAny_holding (wpAny_pure ?_))
  refine wpAny_bind (wpAny_letGo ?_)
  show wpAny _ _ (if ((es.size : Nat) : Int) < 0 then _ else _) _ _ _
  rw [if_neg (by omega)]
  show wpAny _ _ (if ((es.size : Nat) : Int) ≥ 2 ^ 63 then _ else _) _ _ _
  rw [if_neg (by omega)]
  exact wpAny_bind (wpAny_mkInt (wpAny_pure ⟨_, rfl, h⟩))
end
section
variable {X : Cx} {T : Tb} {W : Wi}
abbrev rLenD : List V → Hp → VK → Prop := fun xs H Q => ∃ a es, xs = [.ref a] ∧ H a = some (dictHO a es) ∧ Q (.int es.l.length) H
theorem cr_lenD : CallR X (.builtin "len") rLenD := by
  intro pins st σ H xs us Q I r ⟨a, es, e, h, q⟩
  subst e
  obtain ⟨u, rfl, ru⟩ := r.one
  obtain rfl : u = Value.ref a := ru
  obtain ⟨h1, h2, h3⟩ := dct_raw I h
  refine call_len_raw h1 h3 (by rw [List.size_toArray]; rw [sizeLine_eq] at h2; omega) ⟨.int es.l.length, H, I.tok _, ⟨_, by rw [List.size_toArray]⟩, q⟩
def lenGO : Op := fun ds s => match ds with
  | [d] => (match content s d with
    | some (.M kvs) => .ok (.int kvs.length) s
    | _ => lenO [d] s)
  | _ => .bad
abbrev rLenG (K : PySem.W.Frag) : List V → Hp → VK → Prop := fun xs H Q => ((∃ p ys, xs = [.ref p] ∧ (SqL K H p ys ∨ SqT K H p ys) ∧ Q (.int ys.length) H) ∨ ∃ z, xs = [.str z] ∧ z.length ≤ sizeLine ∧ Q (.int z.length) H) ∨ rLenD xs H Q
theorem cr_lenG : CallR X (.builtin "len") (rLenG X.K) := cr_len.or cr_lenD
theorem lenG_ok : OpOk X T W lenGO (rLenG X.K) := fun σ H G s xs ds Q I r q => by
  unfold lenGO at q
  split at q
  · rename_i d
    split at q
    · rename_i kvs hc
      obtain ⟨v, rfl, r1⟩ := r.one
      obtain ⟨a, es, rfl, h1, h2, h3⟩ := content_M I r1 hc
      exact .inr ⟨a, es, rfl, h1, by rw [h2.length]; exact done I q (.int _)⟩
    · exact .inl (len_ok σ H G s xs [d] Q I r q)
  · exact q.elim
end
end G

set_option Elab.async false
set_option linter.all false
set_option maxRecDepth 100000
set_option maxHeartbeats 4000000
namespace G
open PySem PySem.Spec PyProof.Rows L2
/-! ### [.., *e, ..] -/
def starA (f : Ex) (fs : Ax) : Ax := fun s => (f s).bind fun d s => match seqOf s d with
  | some xs => (fs s).bind fun ds s => .ok (xs ++ ds) s
  | none => .bad
section
variable {X : Cx} {T : Tb} {W : Wi} {p pos apos cpos : Pos}
theorem sl_star {e : Expr} {es : List Expr} {f : Ex} {fs : Ax} (h : SO X T W e f) (hs : SL X T W es fs) (hst : starEach (.Starred e p :: es) X.env = (true, eval e X.env) :: starEach es X.env := by rfl) : SL X T W (.Starred e p :: es) (starA f fs) := by
  refine PA.imp (StX.pa_star h hs hst) fun σ H Q ⟨G, s, I, q⟩ => ?_
  refine tO_bind I q fun d s1 H1 G1 v b J r q => ?_
  cases e1 : seqOf s1 d with
  | none => rw [e1] at q; exact q.elim
  | some xs =>
    rw [e1] at q
    obtain ⟨a, vs, rfl, h1, h2⟩ := seqOf_ok J r e1
    refine ⟨a, vs, rfl, h1.symm, tL_bind J (hL b q) fun ds s2 H2 G2 us b2 J2 r2 q2 => ?_⟩
    exact q2 _ _ _ b2 J2 ((h2.kp (J.kp b2)).append r2)
/-! ### enumerate -/
def enumN (xs : List D) : Nx := fun i _ => some ((xs[i]?).map fun d => .tup [.int (i : Nat), d])
def enumI (f : Ex) : Ix := fun s => (f s).bind fun d s => match d with
  | .lst xs => .ok (enumN xs) s
  | _ => .bad
theorem si_enum {e : Expr} {f : Ex} {tpos : Pos} {elts : List Expr} {kk : Nat} (hg : Gl X "enumerate") (hm : X.mg "enumerate" = none) (h : SV X T W e f) (h1 : starEach [e] X.env = (false, eval e X.env) :: starEach [] X.env := by rfl) (hs : starEach [e] X.env = [(false, eval e X.env)] := by rfl) :
    SI X T W (.Tuple elts kk tpos) (.Call (.Name "enumerate" p) [e] [] pos) (enumI f) := by
  refine PI.imp (pi_enum hg hm (pa_cons h pa_nil h1) hs) fun σ H Q ⟨G, s, I, q⟩ => ?_
  refine tV_bind I q fun d s1 H1 G1 v b J r q => ?_
  cases d with
  | lst xs =>
    cases r with
    | @lst a vs _ hF ha rr =>
      refine ⟨a, vs, rfl, .inl (.inl ha), q _ _ _ b J ?_⟩
      intro i σ1 H2 G2 s2 b2 J2
      have h2 : H2 a = some (.lst vs) := (J.kp b2).ho a hF _ ha
      have z := (rr.kp (J.kp b2)).at' i
      unfold enumN
      cases e1 : xs[i]? with
      | none => rw [e1] at z; exact ⟨vs, .inl (.inl h2), z⟩
      | some d =>
        rw [e1] at z
        obtain ⟨w, hw, rw_⟩ := z
        refine ⟨⟨vs, w, .inl (.inl h2), hw⟩, fun x H3 ⟨p, y, e3, e4, e5, e6⟩ => ?_⟩
        subst e3 e5
        have e7 := e6 vs (.inl (.inl h2))
        rw [hw] at e7
        cases e7
        have k := J2.kp (Stp.fresh (o := HO.tup [V.int (i : Nat), w]) e4)
        exact ⟨_, Stp.fresh e4, J2.fresh e4, .tup (.inl (.inl upd_same)) (.cons (.int _) (.cons (rw_.kp k) .nil))⟩
  | _ => exact q.elim

/-! ### list(d) -/
def listGO : Op := fun ds s => match ds with
  | [d] => (match content s d with
    | some (.M kvs) => .ok (.lst (kvs.map (·.1))) s
    | _ => listO [d] s)
  | _ => .bad
abbrev rListD (K : PySem.W.Frag) : List V → Hp → VK → Prop := fun xs H Q => ∃ a q us, xs = [.ref a] ∧ H a = some (dictHO a q) ∧ Vals us (q.l.map (·.key)) ∧ ∀ l, H l = none → Q (.ref l) (upd H l (.lst us))
theorem cr_listD (hc : X.calm = true) : CallR X (.type "list") (rListD X.K) := by
  intro pins st σ H xs us Q I r ⟨a, q, ws, e, ha, hv, h⟩
  subst e
  obtain ⟨u, rfl, ru⟩ := r.one
  obtain rfl : u = Value.ref a := ru
  obtain ⟨hs, hl, raw⟩ := dct_raw I ha
  refine PySem.W.kdl_call (PySem.KdlSrc.rawDict hs) (I.ok.hd hc) raw (by rw [List.size_toArray]; exact hl) fun h' tk acc' c' kp e hacc => ?_
  have r2 := items_vals hv hacc
  have hl2 : ws.length ≤ sizeLine := by rw [hv.length, List.length_map]; exact hl
  exact ⟨.ref st.heap.objs.size, _, I.laid (t' := tk) kp (Nat.le_refl _) (show ObjOk X.prog X.w _ h' _ (.lst ws) from ⟨hl2, acc'.toList, c', r2, by simpa using e⟩), rfl, h _ (I.hok.fresh (Nat.le_refl _))⟩
theorem listG_ok : OpOk X T W listGO (fun xs H Q => (∃ p ys, xs = [.ref p] ∧ (SqL X.K H p ys ∨ SqT X.K H p ys) ∧ ∀ l, H l = none → Q (.ref l) (upd H l (.lst ys))) ∨ rListD X.K xs H Q) := fun σ H G s xs ds Q I r q => by
  unfold listGO at q
  split at q
  · rename_i d
    split at q
    · rename_i kvs hc
      obtain ⟨v, rfl, r1⟩ := r.one
      obtain ⟨a, es, rfl, h1, h2, h3⟩ := content_M I r1 hc
      obtain ⟨us, k1, k2⟩ := h2.keysV
      exact .inr ⟨a, es, us, rfl, h1, k1, fun l hl => done_new I q hl fun k => .lst (.inr rfl) upd_same (k2.kp k)⟩
    · exact .inl (list_ok σ H G s xs [d] Q I r q)
  · exact q.elim
theorem cr_listG (hc : X.calm = true) : CallR X (.type "list") (fun xs H Q => (∃ p ys, xs = [.ref p] ∧ (SqL X.K H p ys ∨ SqT X.K H p ys) ∧ ∀ l, H l = none → Q (.ref l) (upd H l (.lst ys))) ∨ rListD X.K xs H Q) := call_list_of.or (cr_listD hc)
/-! ### max, min of a list of numbers -/
def bigI : List Int → Int
  | [] => 0
  | [x] => x
  | x :: y :: r => max x (bigI (y :: r))
def litI : List Int → Int
  | [] => 0
  | [x] => x
  | x :: y :: r => min x (litI (y :: r))
theorem bigI_ok : ∀ ns : List Int, ns ≠ [] → bigI ns ∈ ns ∧ ∀ y ∈ ns, y ≤ bigI ns
  | [], h => absurd rfl h
  | [x], _ => by simp [bigI]
  | x :: y :: r, _ => by
    obtain ⟨h1, h2⟩ := bigI_ok (y :: r) (by simp)
    show max x (bigI (y :: r)) ∈ _ ∧ ∀ z ∈ _, z ≤ max x (bigI (y :: r))
    refine ⟨?_, fun z hz => ?_⟩
    · rcases Int.le_total x (bigI (y :: r)) with h | h
      · rw [Int.max_eq_right h]; exact List.mem_cons_of_mem _ h1
      · rw [Int.max_eq_left h]; exact List.mem_cons_self
    · rcases List.mem_cons.mp hz with rfl | hz
      · exact Int.le_max_left _ _
      · exact Int.le_trans (h2 z hz) (Int.le_max_right _ _)
theorem litI_ok : ∀ ns : List Int, ns ≠ [] → litI ns ∈ ns ∧ ∀ y ∈ ns, litI ns ≤ y
  | [], h => absurd rfl h
  | [x], _ => by simp [litI]
  | x :: y :: r, _ => by
    obtain ⟨h1, h2⟩ := litI_ok (y :: r) (by simp)
    show min x (litI (y :: r)) ∈ _ ∧ ∀ z ∈ _, min x (litI (y :: r)) ≤ z
    refine ⟨?_, fun z hz => ?_⟩
    · rcases Int.le_total x (litI (y :: r)) with h | h
      · rw [Int.min_eq_left h]; exact List.mem_cons_self
      · rw [Int.min_eq_right h]; exact List.mem_cons_of_mem _ h1
    · rcases List.mem_cons.mp hz with rfl | hz
      · exact Int.min_le_left _ _
      · exact Int.le_trans (Int.min_le_right _ _) (h2 z hz)
def bigO (k : List Int → Int) : Op := fun ds s => match ds with
  | [d] => (match (coList (content s d)).bind intsOf with
    | some (n :: ns) => .ok (.int (k (n :: ns))) s
    | _ => .bad)
  | _ => .bad
theorem ints_at {σ : Sg} {H : Hp} {G : Wd} {s : S} {d : D} {v : V} {ns : List Int} (I : StR X.w X.K T σ H G s) (r : RepT X.w X.K σ H G s v d) (e : (coList (content s d)).bind intsOf = some ns) : ∃ a, v = .ref a ∧ SqL X.K H a (ns.map V.int) := by
  cases q : content s d with
  | none => rw [q] at e; cases e
  | some c =>
    rw [q] at e
    cases c with
    | L ys =>
      obtain ⟨a, vs, rfl, h2, h3⟩ := content_L I r q
      have h4 := RepL.vals_int h3 (intsOf_ok e)
      subst h4
      exact ⟨a, rfl, .inl (.inl h2)⟩
    | M _ => cases e
    | I _ _ => cases e
    | K _ => cases e
theorem maxl_ok : OpOk X T W (bigO bigI) (rMax X.K) := fun σ H G s xs ds Q I r q => by
  unfold bigO at q
  split at q
  · obtain ⟨v, rfl, r1⟩ := r.one
    split at q
    · rename_i n ns e
      obtain ⟨a, rfl, h⟩ := ints_at I r1 e
      obtain ⟨k1, k2⟩ := bigI_ok (n :: ns) (by simp)
      refine ⟨a, n :: ns, rfl, h, by simp, fun m h1 h2 => ?_⟩
      have : m = bigI (n :: ns) := Int.le_antisymm (k2 m h1) (h2 _ k1)
      rw [this]
      exact done I q (.int _)
    · exact q.elim
  · exact q.elim
theorem minl_ok : OpOk X T W (bigO litI) (rMin X.K) := fun σ H G s xs ds Q I r q => by
  unfold bigO at q
  split at q
  · obtain ⟨v, rfl, r1⟩ := r.one
    split at q
    · rename_i n ns e
      obtain ⟨a, rfl, h⟩ := ints_at I r1 e
      obtain ⟨k1, k2⟩ := litI_ok (n :: ns) (by simp)
      refine ⟨a, n :: ns, rfl, h, by simp, fun m h1 h2 => ?_⟩
      have : m = litI (n :: ns) := Int.le_antisymm (h2 _ k1) (k2 m h1)
      rw [this]
      exact done I q (.int _)
    · exact q.elim
  · exact q.elim
/-! ### d.get(k), d.get(k, z) -/
def getM : Mop := fun d ds s => match content s d, ds with
  | some (.M kvs), [k] => if dctOk kvs k then .ok ((getD k kvs).getD .non) s else .bad
  | some (.M kvs), [k, z] => if dctOk kvs k then .ok ((getD k kvs).getD z) s else .bad
  | _, _ => .bad
def rGetG (X : Cx) : V → List V → Hp → VK → Prop := fun x xs H Q => ∃ G a es kvs k y, x = .ref a ∧ H a = some (dictHO a es) ∧ RepE X.w X.K H G es.l kvs ∧ (kvs.map (·.1)).Nodup ∧ dctOk kvs k = true ∧ Rep X.w X.K H G y k ∧
  ((xs = [y] ∧ ∀ v, Rep X.w X.K H G v ((getD k kvs).getD .non) → Q v H) ∨ ∃ z vz, xs = [y, vz] ∧ Rep X.w X.K H G vz z ∧ ∀ v, Rep X.w X.K H G v ((getD k kvs).getD z) → Q v H)
theorem mt_get (hu : X.A.units + 9 < cLine) : MtR X "dict.get" (rGetG X) := by
  intro pins st σ H x xs v us Q I rx rv ⟨G, a, es, kvs, k, y, ex, h1, h2, h3, h4, h5, h6⟩
  subst ex
  cases rx
  rcases h6 with ⟨e, q⟩ | ⟨z, vz, e, rz, q⟩
  · subst e
    obtain ⟨u, rfl, ru⟩ := rv.one
    exact dct_get1 hu I h1 h2 h3 h4 h5 ru fun w' v' st' I' r' rr => ⟨v', H, I', r', q v' rr⟩
  · subst e
    cases rv with
    | cons r1 r2 =>
      cases r2 with
      | cons r3 r4 =>
        cases r4
        exact dct_get2 hu I h1 h2 h3 h4 h5 r1 rz r3 fun w' v' st' I' r' rr => ⟨v', H, I', r', q v' rr⟩
theorem get_ok : MOk X T W getM (rGetG X) := fun σ H G s x xs d ds Q J r1 r2 q => by
  unfold getM at q
  split at q
  · rename_i kvs k hc
    split at q
    · rename_i hk
      obtain ⟨a, es, rfl, h1, h2, h3⟩ := content_M J r1 hc
      cases r2 with
      | cons r3 r4 =>
        cases r4
        exact ⟨G, a, es, kvs, k, _, rfl, h1, h2, h3, hk, r3, .inl ⟨rfl, fun v rv => done J q rv⟩⟩
    · exact q.elim
  · rename_i kvs k z hc
    split at q
    · rename_i hk
      obtain ⟨a, es, rfl, h1, h2, h3⟩ := content_M J r1 hc
      cases r2 with
      | cons r3 r4 =>
        cases r4 with
        | cons r5 r6 =>
          cases r6
          exact ⟨G, a, es, kvs, k, _, rfl, h1, h2, h3, hk, r3, .inr ⟨z, _, rfl, r5, fun v rv => done J q rv⟩⟩
    · exact q.elim
  · exact q.elim
end
end G

set_option Elab.async false
set_option linter.all false
set_option maxRecDepth 100000
set_option maxHeartbeats 4000000
namespace G
open PySem PySem.Spec PyProof.Rows L2
/-! ### d.update(e): tuples as keys; into an empty dict one entry at most (the model ends where two keys' hashes may be equal) -/
def putsD : List (D × D) → List (D × D) → List (D × D)
  | acc, [] => acc
  | acc, (k, d) :: r => putsD (putD k d acc) r
def updOk (kvs more : List (D × D)) : Bool := tupKs kvs && (tupKs more && ((!kvs.isEmpty || Nat.ble more.length 1) && Nat.ble (kvs.length + more.length) line))
def sepD : D → D → Bool
  | .cel n, .cel m => n != m
  | .own i, .own j => i != j
  | .cel _, .own _ => true
  | .own _, .cel _ => true
  | _, .dct _ => true
  | _, _ => false
def updateM : Mop := fun d ds s => match content s d, ds with
  | some (.M kvs), [e] => (match content s e with
    | some (.M more) => if updOk kvs more && sepD d e then putE (.M (putsD kvs more)) d .non s else .bad
    | _ => .bad)
  | _, _ => .bad
section
variable {w : World} {K : PySem.W.Frag} {H : Hp} {G : Wd}
theorem TP.puts {more : List (D × D)} {ys : List (NestedKey × Addr × Value)} (r : TP w K H G more ys) : ∀ {kvs : List (D × D)} {xs : List (NestedKey × Addr × Value)}, TP w K H G kvs xs → (kvs.map (·.1)).Nodup → TP w K H G (putsD kvs more) (storedAllH xs ys) := by
  induction r with
  | nil => exact fun t _ => t
  | @cons k d a x v kvs' xs' hk rk rv rd r ih =>
    intro kvs xs t hn
    have t2 := t.put hk rk rv rd (t.nodup hn)
    exact ih t2 (putD_nodup hn)
theorem putsD_nodup : ∀ (more kvs : List (D × D)), (kvs.map (·.1)).Nodup → ((putsD kvs more).map (·.1)).Nodup
  | [], _, h => h
  | (k, d) :: r, kvs, h => putsD_nodup r _ (putD_nodup h)
end
theorem updOk_len {kvs more : List (D × D)} (h : updOk kvs more = true) : kvs.length + more.length ≤ sizeLine := by
  unfold updOk at h
  simp only [Bool.and_eq_true, Nat.ble_eq] at h
  rw [line_eq]; exact h.2.2.2
section
variable {X : Cx} {T : Tb} {W : Wi}
theorem nodup_short {α β : Type} {f : α → β} {ys : List α} (h : ys.length ≤ 1) : (ys.map f).Nodup := by
  cases ys with
  | nil => exact List.nodup_nil
  | cons y ys =>
    cases ys with
    | nil => simp
    | cons z ys => simp at h
theorem rep_cel {w : World} {K : PySem.W.Frag} {H : Hp} {G : Wd} {v : V} {n : Nat} (r : Rep w K H G v (.cel n)) : n < G.n ∧ v = .ref (G.rho n) := by
  cases r with
  | cel h => exact ⟨h, rfl⟩
theorem rep_dct {w : World} {K : PySem.W.Frag} {H : Hp} {G : Wd} {a : Addr} {kvs : List (D × D)} (r : Rep w K H G (.ref a) (.dct kvs)) : G.F a := by
  cases r with
  | dct f _ _ _ => exact f
theorem sepD_ok {w : World} {K : PySem.W.Frag} {σ : Sg} {H : Hp} {G : Wd} {s s' : S} {d e : D} {a b : Addr} {c c' : Co} {kvs : List (D × D)} (J : StR w K T σ H G s) (r1 : RepT w K σ H G s (.ref a) d) (p : putCo s c' d = some s') (hc : content s d = some c) (r2 : RepT w K σ H G s (.ref b) e) (hc2 : content s e = some (.M kvs)) (h : sepD d e = true) : a ≠ b := by
  intro z
  subst z
  have oc : ∀ (i m : Nat), (∃ c, s.env[i]? = some (Slot.own c)) → σ[i]? = some (some (V.ref a)) → m < G.n → a = G.rho m → False := fun i m ⟨c, h1⟩ h2 h3 h4 => J.sep i c m h1 h3 (by rw [← h4]; exact h2)
  have ofr : ∀ (i : Nat), (∃ c, s.env[i]? = some (Slot.own c)) → σ[i]? = some (some (V.ref a)) → G.F a → False := fun i ⟨c, h1⟩ h2 h3 => by
    obtain ⟨b, k1, _, k3⟩ := J.own i c h1
    rw [h2] at k1; cases k1
    exact k3 h3
  have cfr : ∀ (n : Nat), n < G.n → a = G.rho n → G.F a → False := fun n h1 h2 h3 => by
    obtain ⟨c, hc⟩ := J.cell h1
    exact (J.sto n c hc).2 (by rw [← h2]; exact h3)
  have two : ∀ (j : Nat) (kvs : List (D × D)), content s (.own j) = some (.M kvs) → RepT w K σ H G s (.ref a) (.own j) → (∃ c, s.env[j]? = some (Slot.own c)) ∨ G.F a := fun j kvs e ⟨hv, x, hx⟩ => by
    simp only [content, hx] at e
    cases x with
    | emp => cases e
    | own c => exact .inl ⟨c, hx⟩
    | val d' =>
      obtain ⟨u, hu, r⟩ := J.val j d' hx
      rw [hv] at hu; cases hu
      cases d' with
      | dct ys => cases r with | dct f _ _ _ => exact .inr f
      | _ => cases e
  have put1 : ∀ (i : Nat), putCo s c' (.own i) = some s' → ∃ c, s.env[i]? = some (Slot.own c) := fun i e => by
    have e : (match s.env[i]? with
      | some (.own _) => some { s with env := s.env.set i (.own c') }
      | _ => none) = some s' := e
    split at e
    · rename_i c1 h1
      exact ⟨c1, h1⟩
    · cases e
  cases d with
  | cel n =>
    obtain ⟨h1, h2⟩ := rep_cel r1
    cases h2
    cases e with
    | cel m =>
      obtain ⟨h3, h4⟩ := rep_cel r2
      have h4 : G.rho n = G.rho m := V.ref.inj h4
      have := J.inj n m h1 h3 h4
      subst this
      simp [sepD] at h
    | own j =>
      rcases two j kvs hc2 r2 with z | z
      · exact oc j n z r2.1 h1 rfl
      · exact cfr n h1 rfl z
    | dct ys => exact cfr n h1 rfl (rep_dct r2)
    | _ => cases h
  | own i =>
    have w1 := put1 i p
    cases e with
    | cel m =>
      obtain ⟨h3, h4⟩ := rep_cel r2
      exact oc i m w1 r1.1 h3 (V.ref.inj h4)
    | own j =>
      rcases two j kvs hc2 r2 with ⟨c2, z⟩ | z
      · obtain ⟨c1, w1⟩ := w1
        have := J.oin i j c1 c2 a w1 z r1.1 r2.1
        subst this
        simp [sepD] at h
      · exact ofr i w1 r1.1 z
    | dct ys => exact ofr i w1 r1.1 (rep_dct r2)
    | _ => cases h
  | _ => cases p
def rUpd (X : Cx) : V → List V → Hp → VK → Prop := fun x xs H Q => ∃ G a b es fs kvs more, x = .ref a ∧ xs = [.ref b] ∧ a ≠ b ∧ H a = some (dictHO a es) ∧ H b = some (dictHO b fs) ∧ RepE X.w X.K H G es.l kvs ∧ RepE X.w X.K H G fs.l more ∧ (kvs.map (·.1)).Nodup ∧ (more.map (·.1)).Nodup ∧ updOk kvs more = true ∧
  ∀ es', RepE X.w X.K H G es'.l (putsD kvs more) → Q .non (upd H a (dictHO a es'))
theorem TP.tup {pins : List (Addr × Obj)} {σ : Sg} {H : Hp} {G : Wd} {st : Shared} (I : Inv X pins σ H st) : ∀ {kvs : List (D × D)} {xs : List (NestedKey × Addr × Value)}, TP X.w X.K H G kvs xs → ∀ x ∈ xs, st.TypeIs (.ref x.2.1) "tuple"
  | _, _, .nil => fun x hx => nomatch hx
  | _, _, .cons hk rk rv rd r => fun x hx => by
    rcases List.mem_cons.mp hx with rfl | hx
    · rename_i k d a y v kvs xs
      cases k with
      | tup ys =>
        cases rk with
        | tup q _ =>
          obtain ⟨its, _, ⟨o, ho, hc, n, hd⟩, _⟩ := I.tuple q
          exact ⟨o, ho, hc⟩
      | _ => cases hk
    · exact TP.tup I r x hx
theorem mt_update (hu : X.A.units + 9 < cLine) : MtR X "dict.update" (rUpd X) := by
  intro pins st σ H x xs v us Q I rx rv ⟨G, a, b, es, fs, kvs, more, ex, exs, ne, h1, h2, h3, h4, h5, h6, ok, q⟩
  subst ex exs
  cases rx
  obtain ⟨u, rfl, ru⟩ := rv.one
  obtain rfl : u = Value.ref b := ru
  have ok' := ok
  unfold updOk at ok'
  simp only [Bool.and_eq_true, Bool.or_eq_true, Nat.ble_eq] at ok'
  obtain ⟨o1, o2, o3, o4⟩ := ok'
  obtain ⟨⟨hl, hs, o, p1, p2, p3⟩, _⟩ := I.hok a _ h1
  obtain ⟨⟨hl2, hs2, o2', p4, p5, p6⟩, _⟩ := I.hok b _ h2
  obtain ⟨xs, t, e2⟩ := TP.of (P := X.prog) h3 o1
  obtain ⟨ys, t2, e3⟩ := TP.of (P := X.prog) h4 o2
  have dd : st.heap.DictOfH (nestedKind X.prog X.w) a xs := ⟨o, es.l.toArray, es.ep, p1, p2, p3, by simpa using e2, t.iss I, t.nodup h5⟩
  have dd2 : st.heap.DictOfH (nestedKind X.prog X.w) b ys := ⟨o2', fs.l.toArray, fs.ep, p4, p5, p6, by simpa using e3, t2.iss I, t2.nodup h6⟩
  refine call_update_dictH (room_nested hu) ne hs2 dd dd2 ?_ (by rw [t.len, t2.len]; exact updOk_len ok) fun h' d1 d2 sb => ?_
  · rcases o3 with o3 | o3
    · left
      intro z
      subst z
      cases t
      simp at o3
    · right
      refine ⟨fun x hx => t2.tup I x hx, ?_⟩
      rw [← t2.len] at o3
      exact nodup_short o3
  · have tt := t2.puts t h5
    have hz : (putsD kvs more).length ≤ sizeLine := by
      rw [← tt.len]
      exact Nat.le_trans (storedAllH_length ys xs) (by rw [t.len, t2.len]; exact updOk_len ok)
    obtain ⟨es', I', r'⟩ := dct_writeT (t' := st.toks) I h1 tt hz hs d1 sb
    exact ⟨.non, _, I', rfl, q es' r'⟩
theorem update_ok : MOkO X T W updateM (rUpd X) := fun σ H G s x xs d ds Q J r1 r2 q => by
  unfold updateM at q
  split at q
  · rename_i kvs e hc
    split at q
    · rename_i more hc2
      split at q
      · rename_i ok
        rw [Bool.and_eq_true] at ok
        unfold putE at q
        cases p : putCo s (.M (putsD kvs more)) d with
        | none => rw [p] at q; exact q.elim
        | some s' =>
          rw [p] at q
          obtain ⟨a, rfl, ⟨es, h1, h2, h3⟩, wr⟩ := write_co J r1 hc p
          obtain ⟨u, rfl, r3⟩ := r2.one
          obtain ⟨b, fs, rfl, k1, k2, k3⟩ := content_M J r3 hc2
          refine ⟨G, a, b, es, fs, kvs, more, rfl, rfl, sepD_ok J r1 p hc r3 hc2 ok.2, h1, k1, h2, k2, h3, k3, ok.1, fun es' re => ?_⟩
          obtain ⟨J2, b2⟩ := wr (dictHO a es') fun kp => ⟨es', upd_same, re.kp kp, putsD_nodup _ _ h3⟩
          exact q _ _ _ b2 J2 .non
      · exact q.elim
    · exact q.elim
  · exact q.elim
/-! ### o[k] += v, x += v, o.f += v, of numbers -/
/-- the operator in place -/
def iopI (plus : Bool) (i j : Int) : Int := if plus then i + j else i - j
def rdI (plus : Bool) : V → V → Hp → VK → Prop := fun x y H Q => ∃ i j, x = .int i ∧ y = .int j ∧ Q (.int (iopI plus i j)) H
theorem in_addI : InOp X .Add (rdI true) := in_add
theorem in_subI : InOp X .Sub (rdI false) := in_sub
def sagS (plus : Bool) (fo fi fv : Ex) : Sx := fun s => (fo s).bind fun d s => (fi s).bind fun k s => match content s d with
  | some (.M kvs) => if dctOk kvs k then (match getD k kvs with
    | some (.int i) => (fv s).bind fun y s => (match y with
      | .int j => storeD d k (.int (iopI plus i j)) s
      | _ => .bad)
    | _ => .bad) else .bad
  | _ => .bad
theorem ss_sag {op : Operator} {plus : Bool} {o i value : Expr} {fo fi fv : Ex} {pos' : Pos} (hu : X.A.units + 65 < cLine) (hop : InOp X op (rdI plus)) (ho : SO X T W o fo) (hi : SO X T W i fi) (hv : SV X T W value fv)
    (ha : ∀ ov iv new, augStore i ov iv new = (do holding [new, ov, iv] (setItem ov iv new); release [new, ov, iv] []; pure .next) := by intro _ _ _; rfl) : SS X T W (.AugAssign (.Subscript o i pos') op value pos) (sagS plus fo fi fv) := by
  refine ⟨fun pins st σ H E I0 ⟨G, s, J, q⟩ => ?_⟩
  have h : tO X.w X.K T W fo σ H fun x H1 => tO X.w X.K T W fi σ H1 fun y H2 => ∃ G2 s2 d k kvs i, StR X.w X.K T σ H2 G2 s2 ∧ RepT X.w X.K σ H2 G2 s2 x d ∧ RepT X.w X.K σ H2 G2 s2 y k ∧ content s2 d = some (.M kvs) ∧ dctOk kvs k = true ∧ getD k kvs = some (.int i) ∧
      tV X.w X.K T W fv σ H2 fun z H3 => ∃ G3 s3 j, StR X.w X.K T σ H3 G3 s3 ∧ RepT X.w X.K σ H3 G3 s3 x d ∧ RepT X.w X.K σ H3 G3 s3 y k ∧ z = .int j ∧ (storeD d k (.int (iopI plus i j)) s3).holds (PS9 X.w X.K T E σ H3 G3 s3) fun _ _ _ => True := by
    refine tO_bind J (hX q) fun d s1 H1 G1 x b J1 r1 q => ?_
    refine tO_bind J1 (R.holds_mono q (fun _ _ p => p) fun _ _ _ p => PX.tr b p) fun k s2 H2 G2 y b2 J2 r2 q => ?_
    split at q
    · rename_i kvs hc
      split at q
      · rename_i hk
        split at q
        · rename_i i hg
          refine ⟨G2, s2, d, k, kvs, i, J2, r1.step J1 b2 J2, r2, hc, hk, hg, ?_⟩
          refine tV_bind J2 (R.holds_mono q (fun _ _ p => p) fun _ _ _ p => PX.tr b2 p) fun e s3 H3 G3 z b3 J3 r3 q => ?_
          cases e with
          | int j =>
            cases r3
            exact ⟨G3, s3, j, J3, (r1.step J1 b2 J2).step J2 b3 J3, r2.step J2 b3 J3, rfl, R.holds_mono q (fun _ _ => PS9.tr ((b.trans b2).trans b3)) fun _ _ _ _ => trivial⟩
          | _ => exact q.elim
        · exact q.elim
      · exact q.elim
    · exact q.elim
  refine wpAny_AugAssign_SubscriptAny (thn (ho.run pins st σ H _ I0 h) fun ov t1 ⟨x, H1, I1, e1, q1⟩ => thn (hi.run pins t1 σ H1 _ I1 q1) fun iv t2 ⟨y, H2, I2, e2, G2, s2, d, k, kvs, i, J2, z1, z2, hc, hk, hg, q2⟩ => ?_) ha
  obtain ⟨a, es, rfl, h1, h2, h3⟩ := content_M J2 z1 hc
  obtain rfl : ov = Value.ref a := e1
  refine dct_getItem (by omega) I2 h1 h2 h3 hk (dctOk_rep hk z2) e2 hg fun w' v' t3 I3 r3 rr => ?_
  cases rr
  refine thn (hv.run pins t3 σ H2 _ I3 q2) fun w2 t4 ⟨z, H3, I4, r4, G3, s3, j, J3, z3, z4, ez, q3⟩ => ?_
  subst ez
  refine thn (hop pins t4 σ H3 (.int i) (.int j) w' w2 (fun u H4 => H4 = H3 ∧ u = .int (iopI plus i j)) I4 r3 r4 ⟨i, j, rfl, rfl, rfl, rfl⟩) fun w3 t5 ⟨u, H4, I5, r5, eH, eu⟩ => ?_
  subst eH eu
  exact thn (store_ok9 hu I5 (show RelV (.ref a) (.ref a) from rfl) e2 r5 J3 z3 z4 (.int _) q3) fun _ t6 ⟨H5, I6, q4⟩ => ⟨σ, H5, I6, q4⟩
/-- x += v -/
def nagS (n : Nat) (plus : Bool) (fv : Ex) : Sx := fun s => match s.env[n]? with
  | some (.val (.int i)) => (fv s).bind fun y s => (match y with
    | .int j => if n < s.env.length then .ok .nx (putV n (.val (.int (iopI plus i j))) s) else .bad
    | _ => .bad)
  | _ => .bad
/-- o.f += v -/
def fagS (plus : Bool) (n : Nat) (fo fv : Ex) : Sx := fun s => (fo s).bind fun d s => match insOf s d with
  | some (c0, fs) => (match lookN n fs with
    | some (.int i) => (fv s).bind fun y s => (match y, d, insOf s d with
      | .int j, .cel m, some (c, fs) => if c = c0 ∧ fs.length < 1000 then .ok .nx { s with sto := s.sto.set m (.I c (putN n (.int (iopI plus i j)) fs)) } else .bad
      | _, _, _ => .bad)
    | _ => .bad)
  | none => .bad
theorem ss_fag {op : Operator} {plus : Bool} {n : Nat} {fn : Str} {o value : Expr} {fo fv : Ex} {pos' : Pos} (kl : Kl X.K T) (hi : T.an[n]? = some fn) (hop : InOp X op (rdI plus)) (ho : SO X T W o fo) (hv : SV X T W value fv) :
    SS X T W (.AugAssign (.Attribute o fn pos') op value pos) (fagS plus n fo fv) := by
  refine PS.imp (ps_fldaug ho hv hop) fun E σ H ⟨G, s, I, q⟩ => ?_
  refine tO_bind I (hX q) fun d s1 H1 G1 u b J r q => ?_
  split at q
  · rename_i c fs h1
    split at q
    · rename_i i hl
      obtain ⟨m, dx, gs, rfl, hn, rfl, hc, h3, h4, h5⟩ := insOf_ok J r h1
      obtain ⟨v, k1, k2⟩ := h4.look hi hl
      cases k2
      refine ⟨_, T.cls c, dx, gs, .int i, rfl, h3, kl.cls c hc, kl.no c fn hc (List.mem_of_getElem? hi), k1, ?_⟩
      refine tV_bind J (R.holds_mono q (fun _ _ p => p) fun _ _ _ p => PX.tr b p) fun y s2 H2 G2 z b2 J2 r2 q => ?_
      cases y with
      | int j =>
        cases r2
        refine ⟨i, j, rfl, rfl, ?_⟩
        split at q
        · rename_i j' m' c2 fs2 e1 e2 h6
          cases e1
          cases e2
          split at q
          · rename_i hlen
            obtain ⟨m2, dx2, gs2, e', hn2, e3, hc2, h7, h8, h9⟩ := insOf_ok J2 (r.step J b2 J2) h6
            cases e'
            have er : G2.rho m = G1.rho m := b2.rh m hn
            rw [er] at h7
            obtain ⟨J3, b3⟩ := write_cell (o := .ins (T.cls c2) dx2 (putF fn (V.int (iopI plus i j)) gs2)) (c' := .I c2 (putN n (.int (iopI plus i j)) fs2)) J2 hn2 (fun _ z => by rw [h9] at z; cases z) fun k => ⟨hc2, dx2, _, upd_same, (h8.put hi (.int _)).kp k⟩
            exact ⟨dx2, gs2, by rw [h7, hlen.1], by rw [h8.length]; exact hlen.2, by rw [← hlen.1, ← er]; exact q _ _ _ ((b.trans b2).trans b3) J3⟩
          · exact q.elim
        · exact q.elim
      | _ => exact q.elim
    · exact q.elim
  · exact q.elim
/-- x += v, x -= v: a name that holds a number -/
theorem ss_nag {op : Operator} {plus : Bool} {n : Nat} {x : Str} {e : Expr} {fv : Ex} {pos' : Pos} (hN : X.N.Nodup) (hi : X.N[n]? = some x) (hx : Loc X.env.scope x) (hop : InOp X op (rdI plus)) (he : SV X T W e fv) (hf : X.fn x = true ∨ X.env.scope.names.lookup x = some .local := by first | exact .inl rfl | exact .inr rfl | assumption) :
    SS X T W (.AugAssign (.Name x pos') op e pos) (nagS n plus fv) := by
  refine PS.imp (ps_aug hN hi hx he (show PIp X op (rdI plus) from hop) hf) fun E σ H ⟨G, s, I, q⟩ => ?_
  unfold nagS at q
  cases e1 : s.env[n]? with
  | none => rw [e1] at q; exact q.elim
  | some sl =>
    rw [e1] at q
    cases sl with
    | val d =>
      cases d with
      | int i =>
        obtain ⟨v, h1, h2⟩ := I.val n _ e1
        cases h2
        refine ⟨_, h1, ?_⟩
        refine tV_bind I (hX q) fun d s1 H1 G1 u b J r q => ?_
        cases d with
        | int j =>
          cases r
          refine ⟨i, j, rfl, rfl, ?_⟩
          have q : ((if n < s1.env.length then R.ok Fl.nx (putV n (.val (.int (iopI plus i j))) s1) else R.bad) : R Fl).holds (PS9 X.w X.K T E σ H G s) (PX X.w X.K T W σ H G s) := q
          split at q
          · rename_i hl
            obtain ⟨J2, b2⟩ := J.set_val (.int (iopI plus i j)) hl
            exact q _ _ _ (b.trans b2) J2
          · exact q.elim
        | _ => exact q.elim
      | _ => exact q.elim
    | _ => exact q.elim
end
end G

set_option Elab.async false
set_option linter.all false
set_option maxRecDepth 100000
set_option maxHeartbeats 4000000
namespace G
open PySem PySem.Spec PyProof.Rows L2
section
variable {X : Cx} {T : Tb} {W : Wi} {p pos apos cpos : Pos}
/-! ### what is never come to -/
theorem sf_never {e : Expr} : SF X T W e (fun _ => .bad) := ⟨fun pins st σ H Q I ⟨G, s, J, q⟩ => q.elim⟩
theorem so_never {e : Expr} : SO X T W e (fun _ => .bad) := ⟨fun pins st σ H Q I ⟨G, s, J, q⟩ => q.elim⟩
theorem st_never {e : Expr} : ST X T W e (fun _ => .bad) := ⟨fun pins st σ H Q I ⟨G, s, J, q⟩ => q.elim⟩
theorem si_never {tg e : Expr} : SI X T W tg e (fun _ => .bad) := ⟨fun pins st σ H Q I ⟨G, s, J, q⟩ => q.elim⟩
/-! ### list(x), a new list -/
def listF (f : Ex) : Fx := fun s => (f s).bind fun d s => match content s d with
  | some (.M kvs) => .ok (.L (kvs.map (·.1))) s
  | _ => (match seqOf s d with
    | some xs => .ok (.L xs) s
    | none => .bad)
theorem sf_list {e : Expr} {f : Ex} (hc : X.calm = true) (hg : Gl X "list") (hm : X.mg "list" = none) (h : SO X T W e f) (he : starEach [e] X.env = (false, eval e X.env) :: starEach [] X.env := by rfl) (hpl : (backTo pos (starEach [] X.env)).any (·.1) = false := by rfl) : SF X T W (.Call (.Name "list" p) [e] [] pos) (listF f) := by
  refine PE.imp (pe_callTy (cr_listG hc) hg hm (by decide +kernel) (pa_cons h pa_nil he) (by decide) (by decide) he hpl) fun σ H Q ⟨G, s, I, q⟩ => ?_
  refine tO_bind I q fun d s1 H1 G1 v b J r q => ?_
  split at q
  · rename_i kvs hcn
    obtain ⟨a, es, rfl, h1, h2, h3⟩ := content_M J r hcn
    obtain ⟨us, k1, k2⟩ := h2.keysV
    exact .inr ⟨a, es, us, rfl, h1, k1, fun l hl => pf_new (c := Co.L (List.map (fun x : D × D => x.fst) kvs)) I b J hl (fun k => ⟨us, upd_same, k2.kp k⟩) q⟩
  · cases e1 : seqOf s1 d with
    | none => rw [e1] at q; exact q.elim
    | some ys =>
      rw [e1] at q
      obtain ⟨a, vs, rfl, h2, h3⟩ := seqOf_ok J r e1
      exact .inl ⟨a, vs, rfl, h2, fun l hl => pf_new (c := .L ys) I b J hl (fun k => ⟨vs, upd_same, h3.kp k⟩) q⟩
/-! ### methods, wired -/
variable {o e : Expr} {fo fe : Ex}
theorem sv_pop0 (ho : SO X T W o fo) (hb : attributeBase o "pop" X.env (eval o X.env) = eval o X.env := by rfl) (hl : (apos.endLine == cpos.line) = true := by rfl) : SV X T W (.Call (.Attribute o "pop" apos) [] [] cpos) (mthE "list" popM fo nilA) :=
  sv_m0 pop_ok F.plainAttrs_list F.slot_list_pop rfl (MtR.or (mtR_of mt_pop) (mtR_of mt_popAt)) ho hb hl
variable {e2 : Expr} {fe2 : Ex}
theorem sv_pop1 (ho : SO X T W o fo) (he : SV X T W e fe)
    (hb : attributeBase o "pop" X.env (eval o X.env) = eval o X.env := by rfl)
    (hf : ((backTo cpos (starEach [e] X.env)).all (fun y => !y.1) && (backToKw cpos (keywordEach [] X.env)).all (fun y => y.1.isSome) && decide ([e].length + ([] : List Keyword).length + (if ([] : List Keyword).isEmpty then 0 else 1) < 30)) = true := by rfl)
    (hl : (apos.endLine == cpos.line) = true := by rfl) (h1 : starEach [e] X.env = (false, eval e X.env) :: starEach [] X.env := by rfl) (hz : (backTo cpos (starEach [] X.env)).any (·.1) = false := by rfl) :
    SV X T W (.Call (.Attribute o "pop" apos) [e] [] cpos) (mthE "list" popM fo (consA fe nilA)) :=
  sv_m pop_ok F.plainAttrs_list F.slot_list_pop rfl (MtR.or (mtR_of mt_pop) (mtR_of mt_popAt)) ho (sl_cons he sl_nil h1) hb hf hl h1 hz
theorem sv_extend (ho : SO X T W o fo) (he : SO X T W e fe)
    (hb : attributeBase o "extend" X.env (eval o X.env) = eval o X.env := by rfl)
    (hf : ((backTo cpos (starEach [e] X.env)).all (fun y => !y.1) && (backToKw cpos (keywordEach [] X.env)).all (fun y => y.1.isSome) && decide ([e].length + ([] : List Keyword).length + (if ([] : List Keyword).isEmpty then 0 else 1) < 30)) = true := by rfl)
    (hl : (apos.endLine == cpos.line) = true := by rfl) (h1 : starEach [e] X.env = (false, eval e X.env) :: starEach [] X.env := by rfl) (hz : (backTo cpos (starEach [] X.env)).any (·.1) = false := by rfl) :
    SV X T W (.Call (.Attribute o "extend" apos) [e] [] cpos) (mthE "list" extendM fo (consA fe nilA)) :=
  sv_mO extend_ok F.plainAttrs_list F.slot_list_extend rfl (mtR_of mt_extend) ho (slo_cons he slo_nil h1) hb hf hl h1 hz
theorem sv_update (hu : X.A.units + 9 < cLine) (ho : SO X T W o fo) (he : SO X T W e fe)
    (hb : attributeBase o "update" X.env (eval o X.env) = eval o X.env := by rfl)
    (hf : ((backTo cpos (starEach [e] X.env)).all (fun y => !y.1) && (backToKw cpos (keywordEach [] X.env)).all (fun y => y.1.isSome) && decide ([e].length + ([] : List Keyword).length + (if ([] : List Keyword).isEmpty then 0 else 1) < 30)) = true := by rfl)
    (hl : (apos.endLine == cpos.line) = true := by rfl) (h1 : starEach [e] X.env = (false, eval e X.env) :: starEach [] X.env := by rfl) (hz : (backTo cpos (starEach [] X.env)).any (·.1) = false := by rfl) :
    SV X T W (.Call (.Attribute o "update" apos) [e] [] cpos) (mthE "dict" updateM fo (consA fe nilA)) :=
  sv_mO update_ok F.plainAttrs_dict F.slot_dict_update rfl (mt_update hu) ho (slo_cons he slo_nil h1) hb hf hl h1 hz
theorem sv_get1 (hu : X.A.units + 9 < cLine) (ho : SO X T W o fo) (he : SV X T W e fe)
    (hb : attributeBase o "get" X.env (eval o X.env) = eval o X.env := by rfl)
    (hf : ((backTo cpos (starEach [e] X.env)).all (fun y => !y.1) && (backToKw cpos (keywordEach [] X.env)).all (fun y => y.1.isSome) && decide ([e].length + ([] : List Keyword).length + (if ([] : List Keyword).isEmpty then 0 else 1) < 30)) = true := by rfl)
    (hl : (apos.endLine == cpos.line) = true := by rfl) (h1 : starEach [e] X.env = (false, eval e X.env) :: starEach [] X.env := by rfl) (hz : (backTo cpos (starEach [] X.env)).any (·.1) = false := by rfl) :
    SV X T W (.Call (.Attribute o "get" apos) [e] [] cpos) (mthE "dict" getM fo (consA fe nilA)) :=
  sv_m get_ok F.plainAttrs_dict F.slot_dict_get rfl (mt_get hu) ho (sl_cons he sl_nil h1) hb hf hl h1 hz
theorem sv_get2 (hu : X.A.units + 9 < cLine) (ho : SO X T W o fo) (he : SV X T W e fe) (he2 : SV X T W e2 fe2)
    (hb : attributeBase o "get" X.env (eval o X.env) = eval o X.env := by rfl)
    (hf : ((backTo cpos (starEach [e, e2] X.env)).all (fun y => !y.1) && (backToKw cpos (keywordEach [] X.env)).all (fun y => y.1.isSome) && decide ([e, e2].length + ([] : List Keyword).length + (if ([] : List Keyword).isEmpty then 0 else 1) < 30)) = true := by rfl)
    (hl : (apos.endLine == cpos.line) = true := by rfl) (h1 : starEach [e, e2] X.env = (false, eval e X.env) :: starEach [e2] X.env := by rfl) (h2 : starEach [e2] X.env = (false, eval e2 X.env) :: starEach [] X.env := by rfl) (hz : (backTo cpos (starEach [e2] X.env)).any (·.1) = false := by rfl) :
    SV X T W (.Call (.Attribute o "get" apos) [e, e2] [] cpos) (mthE "dict" getM fo (consA fe (consA fe2 nilA))) :=
  sv_m get_ok F.plainAttrs_dict F.slot_dict_get rfl (mt_get hu) ho (sl_cons he (sl_cons he2 sl_nil h2) h1) hb hf hl h1 hz
end
end G

set_option Elab.async false
set_option linter.all false
set_option maxRecDepth 100000
set_option maxHeartbeats 4000000
namespace G
open PySem PySem.Spec PyProof.Rows L2
abbrev NoX (f : Gx) : Prop := ∀ d s, (∃ u s', f d s = .ok u s') ∨ f d s = .bad
abbrev NoXs (f : Gxs) : Prop := ∀ d s, (∃ u s', f d s = .ok u s') ∨ f d s = .bad
theorem nilG_no : NoXs nilG := fun ds s => by
  cases ds with
  | nil => exact .inl ⟨(), s, rfl⟩
  | cons d r => exact .inr rfl
theorem consG_no {f : Gx} {g : Gxs} (hf : NoX f) (hg : NoXs g) : NoXs (consG f g) := fun ds s => by
  cases ds with
  | nil => exact .inr rfl
  | cons d r =>
    show (∃ u s', ((f d s).bind fun _ s => g r s) = .ok u s') ∨ ((f d s).bind fun _ s => g r s) = .bad
    rcases hf d s with ⟨u, s', e⟩ | e
    · rw [e]
      exact hg r s'
    · rw [e]
      exact .inr rfl
theorem tupG_no {f : Gxs} (h : NoXs f) : NoX (tupG f) := fun d s => by
  cases d with
  | tup ds => exact h ds s
  | _ => exact .inr rfl
section
variable {X : Cx} {T : Tb} {W : Wi} {p pos apos cpos : Pos}
/-! ### a, b = x, y -/
theorem ss_par2 {i j : Nat} {x y : Str} {a b : Expr} {fs : Ax} {px py pt : Pos} {kt k2 pt2} (hc : X.calm = true) (hN : X.N.Nodup) (hi : X.N[i]? = some x) (hj : X.N[j]? = some y) (hij : i ≠ j)
    (hx : X.env.scope.names.lookup x = some .local) (hy : X.env.scope.names.lookup y = some .local) (ha : SL X T W [a, b] fs)
    (hw : swappedStores [.Tuple [.Name x px, .Name y py] kt pt] (.Tuple [a, b] k2 pt2) X.env = pure (some [x, y]) := by rfl)
    (hs : swapsWithSole [.Tuple [.Name x px, .Name y py] kt pt] (.Tuple [a, b] k2 pt2) pos.line X.env = pure false := by rfl) :
    SS X T W (.Assign [.Tuple [.Name x px, .Name y py] kt pt] (.Tuple [a, b] k2 pt2) pos) (asgS (tupG (consG (nameG i) (consG (nameG j) nilG))) (tupE fs)) := by
  refine PS.imp (ps_par hc hN hi hj hij hx hy ha hw hs) fun E σ H ⟨G, s, I, q⟩ => ?_
  have q1 : ((fs s).bind fun ds s => (if ds.length ≤ line then R.ok (D.tup ds) s else R.bad).bind fun d s => match tupG (consG (nameG i) (consG (nameG j) nilG)) d s with
    | .ok _ s => .ok .nx s
    | _ => .bad).holds (PS9 X.w X.K T E σ H G s) (PXs X.w X.K T W σ H G s) := by
    have e : asgS (tupG (consG (nameG i) (consG (nameG j) nilG))) (tupE fs) s = ((fs s).bind fun ds s => (if ds.length ≤ line then R.ok (D.tup ds) s else R.bad).bind fun d s => match tupG (consG (nameG i) (consG (nameG j) nilG)) d s with
      | .ok _ s => .ok .nx s
      | _ => .bad) := by
      unfold asgS tupE
      cases fs s <;> rfl
    rw [← e]; exact q
  refine tL_bind I (hX q1) fun ds s1 H1 G1 vs b J r q => ?_
  split at q
  · have q : ((match consG (nameG i) (consG (nameG j) nilG) ds s1 with
        | .ok _ s => R.ok Fl.nx s
        | _ => R.bad) : R Fl).holds (PS9 X.w X.K T E σ H G s) (PX X.w X.K T W σ H G s) := q
    by_cases hl : ds.length = 2
    · match ds, vs, r, hl, q with
      | [d1, d2], _, .cons (v := v1) r1 (.cons (v := v2) r2 .nil), _, q =>
        refine ⟨v1, v2, rfl, ?_⟩
        have q : ((match ((if i < s1.env.length then R.ok () (putV i (.val d1) s1) else R.bad).bind fun _ s => (if j < s.env.length then R.ok () (putV j (.val d2) s) else R.bad).bind fun _ s => R.ok () s) with
          | .ok _ s => R.ok Fl.nx s
          | _ => R.bad) : R Fl).holds (PS9 X.w X.K T E σ H G s) (PX X.w X.K T W σ H G s) := q
        by_cases h1 : i < s1.env.length
        · rw [if_pos h1] at q
          obtain ⟨J2, b2⟩ := J.set_val r1 h1
          have q : ((match ((if j < (putV i (.val d1) s1).env.length then R.ok () (putV j (.val d2) (putV i (.val d1) s1)) else R.bad).bind fun _ s => R.ok () s) with
            | .ok _ s => R.ok Fl.nx s
            | _ => R.bad) : R Fl).holds (PS9 X.w X.K T E σ H G s) (PX X.w X.K T W σ H G s) := q
          by_cases h2 : j < (putV i (.val d1) s1).env.length
          · rw [if_pos h2] at q
            obtain ⟨J3, b3⟩ := J2.set_val (r2.kp (J.kp b2)) h2
            exact q _ _ _ ((b.trans b2).trans b3) J3
          · rw [if_neg h2] at q; exact q.elim
        · rw [if_neg h1] at q; exact q.elim
    · rw [consG_len (consG_len nilG_len nameG_no) nameG_no ds s1 hl] at q
      exact q.elim
  · exact q.elim
/-- a, b, c = x, y, z -/
theorem ss_par3 {i j l : Nat} {x y z : Str} {a b c : Expr} {fs : Ax} {px py pz pt : Pos} {kt k2 pt2} (hc : X.calm = true) (hN : X.N.Nodup) (hi : X.N[i]? = some x) (hj : X.N[j]? = some y) (hl : X.N[l]? = some z) (hij : i ≠ j) (hil : i ≠ l) (hjl : j ≠ l)
    (hx : X.env.scope.names.lookup x = some .local) (hy : X.env.scope.names.lookup y = some .local) (hz : X.env.scope.names.lookup z = some .local) (ha : SL X T W [a, b, c] fs)
    (hw : swappedStores [.Tuple [.Name x px, .Name y py, .Name z pz] kt pt] (.Tuple [a, b, c] k2 pt2) X.env = pure (some [x, y, z]) := by rfl)
    (hs : swapsWithSole [.Tuple [.Name x px, .Name y py, .Name z pz] kt pt] (.Tuple [a, b, c] k2 pt2) pos.line X.env = pure false := by rfl) :
    SS X T W (.Assign [.Tuple [.Name x px, .Name y py, .Name z pz] kt pt] (.Tuple [a, b, c] k2 pt2) pos) (asgS (tupG (consG (nameG i) (consG (nameG j) (consG (nameG l) nilG)))) (tupE fs)) := by
  refine PS.imp (ps_par3 hc hN hi hj hl hij hil hjl hx hy hz ha hw hs) fun E σ H ⟨G, s, I, q⟩ => ?_
  have q1 : ((fs s).bind fun ds s => (if ds.length ≤ line then R.ok (D.tup ds) s else R.bad).bind fun d s => match tupG (consG (nameG i) (consG (nameG j) (consG (nameG l) nilG))) d s with
    | .ok _ s => .ok .nx s
    | _ => .bad).holds (PS9 X.w X.K T E σ H G s) (PXs X.w X.K T W σ H G s) := by
    have e : asgS (tupG (consG (nameG i) (consG (nameG j) (consG (nameG l) nilG)))) (tupE fs) s = ((fs s).bind fun ds s => (if ds.length ≤ line then R.ok (D.tup ds) s else R.bad).bind fun d s => match tupG (consG (nameG i) (consG (nameG j) (consG (nameG l) nilG))) d s with
      | .ok _ s => .ok .nx s
      | _ => .bad) := by
      unfold asgS tupE
      cases fs s <;> rfl
    rw [← e]; exact q
  refine tL_bind I (hX q1) fun ds s1 H1 G1 vs b J r q => ?_
  split at q
  · have q : ((match consG (nameG i) (consG (nameG j) (consG (nameG l) nilG)) ds s1 with
        | .ok _ s => R.ok Fl.nx s
        | _ => R.bad) : R Fl).holds (PS9 X.w X.K T E σ H G s) (PX X.w X.K T W σ H G s) := q
    by_cases hl : ds.length = 3
    · match ds, vs, r, hl, q with
      | [d1, d2, d3], _, .cons (v := v1) r1 (.cons (v := v2) r2 (.cons (v := v3) r3 .nil)), _, q =>
        refine ⟨v1, v2, v3, rfl, ?_⟩
        have q : ((match ((if i < s1.env.length then R.ok () (putV i (.val d1) s1) else R.bad).bind fun _ s => (if j < s.env.length then R.ok () (putV j (.val d2) s) else R.bad).bind fun _ s => (if l < s.env.length then R.ok () (putV l (.val d3) s) else R.bad).bind fun _ s => R.ok () s) with
          | .ok _ s => R.ok Fl.nx s
          | _ => R.bad) : R Fl).holds (PS9 X.w X.K T E σ H G s) (PX X.w X.K T W σ H G s) := q
        by_cases h1 : i < s1.env.length
        · rw [if_pos h1] at q
          obtain ⟨J2, b2⟩ := J.set_val r1 h1
          have q : ((match ((if j < (putV i (.val d1) s1).env.length then R.ok () (putV j (.val d2) (putV i (.val d1) s1)) else R.bad).bind fun _ s => (if l < s.env.length then R.ok () (putV l (.val d3) s) else R.bad).bind fun _ s => R.ok () s) with
            | .ok _ s => R.ok Fl.nx s
            | _ => R.bad) : R Fl).holds (PS9 X.w X.K T E σ H G s) (PX X.w X.K T W σ H G s) := q
          by_cases h2 : j < (putV i (.val d1) s1).env.length
          · rw [if_pos h2] at q
            obtain ⟨J3, b3⟩ := J2.set_val (r2.kp (J.kp b2)) h2
            have q : ((match ((if l < (putV j (.val d2) (putV i (.val d1) s1)).env.length then R.ok () (putV l (.val d3) (putV j (.val d2) (putV i (.val d1) s1))) else R.bad).bind fun _ s => R.ok () s) with
              | .ok _ s => R.ok Fl.nx s
              | _ => R.bad) : R Fl).holds (PS9 X.w X.K T E σ H G s) (PX X.w X.K T W σ H G s) := q
            by_cases h3 : l < (putV j (.val d2) (putV i (.val d1) s1)).env.length
            · rw [if_pos h3] at q
              obtain ⟨J4, b4⟩ := J3.set_val ((r3.kp (J.kp b2)).kp (J2.kp b3)) h3
              exact q _ _ _ (((b.trans b2).trans b3).trans b4) J4
            · rw [if_neg h3] at q; exact q.elim
          · rw [if_neg h2] at q; exact q.elim
        · rw [if_neg h1] at q; exact q.elim
    · rw [consG_len (consG_len (consG_len nilG_len nameG_no) nameG_no) nameG_no ds s1 hl] at q
      exact q.elim
  · exact q.elim
end
end G

set_option Elab.async false
set_option linter.all false
set_option maxRecDepth 100000
set_option maxHeartbeats 4000000
namespace G
open PySem PySem.Spec PyProof.Rows L2
/-! ### xs.extend(d), the keys of a dict behind what stands there -/
def Behind (Z : Array Value) (Pt : Nat → Value → Prop) (y : Array Value) (i : Nat) : Prop := ∃ u : Array Value, y = Z ++ u ∧ ItemsOf Pt u i
theorem Behind.push {Z : Array Value} {Pt : Nat → Value → Prop} {y : Array Value} {i : Nat} {x : Value} (h : Behind Z Pt y i) (hx : Pt i x) : Behind Z Pt (y.push x) (i + 1) := by
  obtain ⟨u, rfl, hu⟩ := h
  exact ⟨u.push x, by simp, hu.push hx⟩
theorem Behind.size {Z : Array Value} {Pt : Nat → Value → Prop} {y : Array Value} {i : Nat} (h : Behind Z Pt y i) : y.size = Z.size + i := by
  obtain ⟨u, rfl, hu⟩ := h
  rw [Array.size_append, hu.1]
section
variable {prog : Program} {w : World} {A : Around} {R : Result → Shared → Prop} {J : Addr} {fq wq : List Addr} {Gn : Array GenState → Array GenState → Prop} {n : Nat} {Pt : Nat → Value → Prop} {Sq : Nat → Shared → Prop} {Z : Array Value}
theorem code_behind (W : WalksS prog w A.in1 J fq wq Gn n Pt Sq) (hz : Z.size + n ≤ sizeLine) (L : Addr) (hL : L ∉ fq) (res : Value) :
    ∀ (m i : Nat) (t : Shared) (y : Array Value) (c : Nat), n - i = m → i ≤ n → Sq i t → t.heap.get? L = some { cls := .type "list", dict := none, data := .seq y c, slots := #[] } → Behind Z Pt y i →
    (∀ t' y' c', Moved (L :: wq) Gn t t' → t'.heap.get? L = some { cls := .type "list", dict := none, data := .seq y' c', slots := #[] } → Behind Z Pt y' n → R (.ok (.ret res)) t') →
    codeAny (model prog w) A (.builtin "list.extend.loop" ⟨[.ref L, .ref J, res], []⟩) R t := by
  have hLw : L ∉ wq := fun h => hL (W.sub _ h)
  have wider : ∀ b ∈ wq, b ∈ L :: wq := fun b hb => List.mem_cons_of_mem _ hb
  intro m
  induction m with
  | zero =>
    intro i t y c e0 hi st0 e1 hy go
    have ein : i = n := by omega
    subst ein
    refine codeAny_builtin PySem.F.entry_extend_loop ?_
    rw [Around.under_plainId PySem.F.plain_extend_loop _]
    show wpAny _ A.in1 (pyNext (.ref J) >>= _) _ _ t
    refine wpAny_bind (W.done t _ _ st0 fun t' hm => ?_)
    exact wpAny_pure (go t' y c (hm.mono wider) (hm.heap L _ hLw e1) hy)
  | succ m ih =>
    intro i t y c e0 hi st0 e1 hy go
    have lt : i < n := by omega
    have sz := hy.size
    refine codeAny_builtin PySem.F.entry_extend_loop ?_
    rw [Around.under_plainId PySem.F.plain_extend_loop _]
    show wpAny _ A.in1 (pyNext (.ref J) >>= _) _ _ t
    refine wpAny_bind (W.item i t _ _ lt st0 fun v t' hP st1 hm => ?_)
    have e2 := hm.heap L _ hLw e1
    show wpAny _ A.in1 (updateSeq L (·.push v) >>= _) _ _ _
    refine wpAny_bind ?_
    refine wpAny_updateSeq e2 rfl (wpAny_pure ⟨plainId_quiet PySem.F.plain_extend_loop _, ih (i + 1) _ (y.push v) _ (by omega) lt (W.frame _ t' _ t'.toks st1 (Nat.le_refl _) fun b hb o e => ?_) (Heap.get?_update_self _ e2 rfl) (hy.push hP) fun t2 y' c' hm2 e3 hy' => ?_⟩)
      (by omega) (by show (y.push v).size ≤ sizeLine + 1; rw [Array.size_push]; omega)
    · exact (Heap.get?_update_other _ _ (fun z : L = b => hL (by rw [z]; exact hb))).trans e
    · refine go t2 y' c' (Moved.trans W.gtrans ((hm.mono wider).then_heap (by first | exact Nat.le_refl _ | exact Nat.le_succ _ | omega) fun b o hb e => ?_) hm2) e3 hy'
      exact (Heap.get?_update_other _ _ (fun z : L = b => hb (by rw [z]; exact List.mem_cons_self))).trans e
end
section
variable {prog : Program} {w : World} {A : Around} {t : Shared} {Ty : String} {r d : Addr} {n : Nat} {Pt : Nat → Value → Prop} {Ok : Heap → Prop} {Z : Array Value}
theorem extend_behind {R : Result → Shared → Prop} (S : PySem.W.KdlSrc prog w Ty r d n Pt Ok) (h0 : A.handled = none) (ok : Ok t.heap) (L : Addr) (n1 : L ≠ r) (n2 : L ≠ d) (res : Value) (c0 : Nat) (e0 : t.heap.get? L = some { cls := .type "list", data := .seq Z c0 })
    (go : ∀ h' tk y c', (∀ b o, b ≠ L → t.heap.get? b = some o → h'.get? b = some o) → h'.get? L = some { cls := .type "list", dict := none, data := .seq y c', slots := #[] } → Behind Z Pt y n → R (.ok (.ret res)) { t with heap := h', toks := tk }) (hz : Z.size + n < sizeLine) :
    wpAny (model prog w) A.in1 (Builtin.List.listExtendWith (.ref L) (.ref r) res)
      (fun f t' => match f with | .done q => R (.ok q) t' | .again c' => c'.quiet = true ∧ codeAny (model prog w) A c' R t') (fun e t' => R (.error e) t') t := by
  have n3 : L ≠ t.heap.objs.size := Nat.ne_of_lt (Heap.lt_size e0)
  have n4 : L ∉ [t.heap.objs.size, d] := by simp only [List.mem_cons, List.not_mem_nil, or_false, not_or]; exact ⟨n3, n2⟩
  obtain ⟨oJ, Sq, hit, W, st0⟩ := S.iter A.in1 t h0 ok
  have key : ∀ (h : Heap) (c1 tk : Nat), Sq 0 h → (∀ b o, b ≠ L → t.heap.get? b = some o → h.get? b = some o) →
      h.get? L = some { cls := .type "list", data := .seq Z c1 } → codeAny (model prog w) A (.builtin "list.extend.loop" ⟨[.ref L, .ref t.heap.objs.size, res], []⟩) R { t with heap := h, toks := tk } := by
    intro h c1 tk st1 keep e1
    refine code_behind W.toS (Nat.le_of_lt hz) L n4 res n 0 _ Z c1 rfl (Nat.zero_le _) st1 e1 ⟨#[], by simp, ItemsOf.nil _⟩ fun t' y c' hm e2 hy => ?_
    rw [Moved.eq_with hm]
    refine go t'.heap t'.toks y c' (fun b o hb e => hm.heap b o (fun hmem => ?_) (keep b o hb e)) e2 hy
    rcases List.mem_cons.mp hmem with z | hmem
    · exact hb z
    · exact absurd (Heap.lt_size e) (by rw [List.mem_singleton.mp hmem]; exact Nat.lt_irrefl _)
  unfold Builtin.List.listExtendWith
  refine wpAny_bind (wpAny_typeOf (T := Ty) (S.type t ok) ?_)
  have b1 : Builtin.List.listSameRef (.ref L) (.ref r) = false := by simp [Builtin.List.listSameRef, n1]
  simp only [b1, S.notList, S.notTuple, Bool.or_false, Bool.false_eq_true, if_false]
  refine wpAny_bind (hit _ _ ?_)
  have e1 := Heap.get?_push_of_some oJ e0
  refine wpAny_bind (wpAny_holding (S.hint _ _ _ _ (S.keep _ _ ok fun b _ o e => Heap.get?_push_of_some _ e) ?_))
  refine wpAny_ite_split (fun _ => ?_) (fun _ => wpAny_pure ⟨plainId_quiet PySem.F.plain_extend_loop _, key _ c0 _ st0 (fun b o _ e => Heap.get?_push_of_some _ e) e1⟩)
  refine wpAny_bind (wpAny_rule ?_)
  refine wpAny_bind ?_
  show wpAny _ _ (updateSeq L (·.push .none) >>= fun _ => updateSeq L (·.pop)) _ _ _
  refine wpAny_bind (wpAny_updateSeq e1 rfl ?_ (by omega) (by show (Z.push Value.none).size ≤ sizeLine + 1; rw [Array.size_push]; omega))
  have e2 := Heap.get?_update_self (Obj.mapSeq (·.push Value.none)) e1 rfl
  have ez : (Z.push Value.none).size = Z.size + 1 := Array.size_push _
  refine wpAny_updateSeq e2 rfl ?_ (by show (Z.push Value.none).size ≤ sizeLine; omega) (by show (Z.push Value.none).pop.size ≤ sizeLine + 1; rw [Array.pop_push]; omega)
  have e3 := Heap.get?_update_self (Obj.mapSeq (·.pop)) e2 rfl
  obtain ⟨c2, ec⟩ : ∃ c2, Obj.mapSeq (·.pop) (Obj.mapSeq (·.push Value.none) { cls := .type "list", data := .seq Z c0 }) = ({ cls := .type "list", data := .seq Z c2 } : Obj) := ⟨_, by simp only [Obj.mapSeq, Array.pop_push]; rfl⟩
  rw [ec] at e3
  refine wpAny_pure ⟨plainId_quiet PySem.F.plain_extend_loop _, key _ _ _ ?_ (fun b o hb e => ?_) e3⟩
  · refine W.frame 0 _ _ st0 fun b hb o e => ?_
    have nb : b ≠ L := fun z => n4 (z ▸ hb)
    exact (Heap.get?_update_other _ _ (Ne.symm nb)).trans ((Heap.get?_update_other _ _ (Ne.symm nb)).trans e)
  · exact (Heap.get?_update_other _ _ (Ne.symm hb)).trans ((Heap.get?_update_other _ _ (Ne.symm hb)).trans (Heap.get?_push_of_some _ e))
end
end G
namespace G
open PySem PySem.Spec PyProof.Rows L2
def extGM : Mop := fun d ds s => match content s d, ds with
  | some (.L xs), [e] => (match content s e with
    | some (.M kvs) => if xs.length + kvs.length < line then putE (.L (xs ++ kvs.map (·.1))) d .non s else .bad
    | _ => extendM d [e] s)
  | _, _ => .bad
section
variable {X : Cx} {T : Tb} {W : Wi}
def rExtD : V → List V → Hp → VK → Prop := fun x vs H Q => ∃ l b xs q us, x = .ref l ∧ vs = [.ref b] ∧ l ≠ b ∧ H l = some (.lst xs) ∧ H b = some (dictHO b q) ∧ Vals us (q.l.map (·.key)) ∧ xs.length + us.length < sizeLine ∧ Q .non (upd H l (.lst (xs ++ us)))
theorem mt_extD (hc : X.calm = true) : MtR X "list.extend" rExtD := by
  intro pins st σ H x vs v us Q I rx rv ⟨l, b, xs, q, ws, ex, ev, ne, h1, h2, h3, h4, hq⟩
  subst ex ev
  cases rx
  obtain ⟨u, rfl, ru⟩ := rv.one
  obtain rfl : u = Value.ref b := ru
  obtain ⟨z, its, n, r, hl, e⟩ := I.lstM h1
  obtain ⟨hs, hl2, raw⟩ := dct_raw I h2
  refine call_meetsIn F.slot_list_extend ⟨_, e, rfl⟩ F.entry_list_extend (F.args_list_extend_2 _ _)
    (S := fun A' R s' => A' = X.A ∧ s' = st ∧ ∀ h' tk (y : Array Value) c', (∀ b' o, b' ≠ l → st.heap.get? b' = some o → h'.get? b' = some o) → h'.get? l = some { cls := .type "list", dict := none, data := .seq y c', slots := #[] } → (∃ ks : Array Value, y = its.toArray ++ ks ∧ Vals ws ks.toList) → R (.ok (.ret .none)) { st with heap := h', toks := tk })
    (fun A' R s' hS => ?_) ⟨rfl, rfl, fun h' tk y c' keep e2 ⟨ks, ey, hv⟩ => ?_⟩
  · obtain ⟨rfl, rfl, go⟩ := hS
    show wpAny _ _ (Builtin.List.listExtendWith (.ref l) (.ref b) .none) _ _ _
    have e : s'.heap.get? l = some { cls := .type "list", data := .seq its.toArray n } := e
    refine extend_behind (Z := its.toArray) (PySem.KdlSrc.rawDict hs) (I.ok.hd hc) raw l ne ne .none n e (fun h' tk y c' keep e2 hy => ?_) ?_
    · obtain ⟨ks, ey, hk⟩ := hy
      exact go h' tk y c' keep e2 ⟨ks, ey, items_vals h3 hk⟩
    · rw [List.size_toArray, List.size_toArray, ← r.length]
      have := h3.length
      rw [List.length_map] at this
      omega
  · subst ey
    have hz : (xs ++ ws).length ≤ sizeLine := by
      rw [List.length_append]
      omega
    have e3 : h'.get? l = some { cls := .type "list", dict := none, data := .seq (its ++ ks.toList).toArray c', slots := #[] } := by
      have : (its ++ ks.toList).toArray = its.toArray ++ ks := by simp
      rw [this]
      exact e2
    have I2 : Inv X pins σ (upd H l (.lst (xs ++ ws))) { st with heap := h', toks := tk } :=
      I.write (x := l) (e := l) (by rw [h1]; exact trivial) (.inl rfl) (fun b' u hb hu => keep b' u hb hu) ⟨_, e3⟩ ⟨hz, its ++ ks.toList, c', r.append hv, e3⟩
    exact ⟨.non, _, I2, rfl, hq⟩
theorem ext_ok : MOkO X T W extGM (fun x vs H Q => rExtend x vs H Q ∨ rExtD x vs H Q) := fun σ H G s x xs d ds Q J r1 r2 q => by
  unfold extGM at q
  split at q
  · rename_i ys e hc
    split at q
    · rename_i kvs hc2
      split at q
      · rename_i hl
        unfold putE at q
        cases p : putCo s (.L (ys ++ kvs.map (·.1))) d with
        | none => rw [p] at q; exact q.elim
        | some s' =>
          rw [p] at q
          obtain ⟨a, rfl, ⟨vs, h1, h2⟩, wr⟩ := write_co J r1 hc p
          obtain ⟨u, rfl, r3⟩ := r2.one
          obtain ⟨b, es, rfl, h3, h4, h5⟩ := content_M J r3 hc2
          obtain ⟨us, k1, k2⟩ := h4.keysV
          have ne : a ≠ b := fun z => by
            rw [z, h3] at h1
            cases h1
          obtain ⟨J2, b2⟩ := wr (.lst (vs ++ us)) fun kp => ⟨_, upd_same, (h2.kp kp).append (k2.kp kp)⟩
          exact .inr ⟨a, b, vs, es, us, rfl, rfl, ne, h1, h3, k1, by rw [h2.length, k2.length, List.length_map, line_eq]; exact hl, q _ _ _ b2 J2 .non⟩
      · exact q.elim
    · exact .inl (extend_ok σ H G s x xs d [e] Q J r1 r2 q)
  · exact q.elim
variable {pos apos cpos : Pos} {o e : Expr} {fo fe : Ex}
theorem sv_extG (hc : X.calm = true) (ho : SO X T W o fo) (he : SO X T W e fe)
    (hb : attributeBase o "extend" X.env (eval o X.env) = eval o X.env := by rfl)
    (hf : ((backTo cpos (starEach [e] X.env)).all (fun y => !y.1) && (backToKw cpos (keywordEach [] X.env)).all (fun y => y.1.isSome) && decide ([e].length + ([] : List Keyword).length + (if ([] : List Keyword).isEmpty then 0 else 1) < 30)) = true := by rfl)
    (hl : (apos.endLine == cpos.line) = true := by rfl) (h1 : starEach [e] X.env = (false, eval e X.env) :: starEach [] X.env := by rfl) (hz : (backTo cpos (starEach [] X.env)).any (·.1) = false := by rfl) :
    SV X T W (.Call (.Attribute o "extend" apos) [e] [] cpos) (mthE "list" extGM fo (consA fe nilA)) :=
  sv_mO ext_ok F.plainAttrs_list F.slot_list_extend rfl (MtR.or (mtR_of mt_extend) (mt_extD hc)) ho (slo_cons he slo_nil h1) hb hf hl h1 hz
end
end G

set_option Elab.async false
set_option linter.all false
set_option maxRecDepth 100000
set_option maxHeartbeats 4000000
namespace G
open PySem PySem.Spec PyProof.Rows L2
/-! ### o.m(k = v), C(k = v) -/
def tMethN (C : Addr) (m : Str) (n j : Nat) (sp : Sp) (gV : List V → List V → List V) (ta : TE) (t tk : TA) : TE := fun σ H Q => ta σ H fun x H1 => ∃ a dx fs, x = .ref a ∧ H1 a = some (.ins C dx fs) ∧ fs.lookup m = none ∧
  t σ H1 fun vs H2 => tk σ H2 fun zs H3 => vs.length = n ∧ zs.length = j ∧ sp (gV (x :: vs) zs) H3 Q E0
def tMkN (C : Addr) (n j : Nat) (sp : Sp) (gV : List V → List V → List V) (t tk : TA) : TE := fun σ H Q => t σ H fun vs H1 => tk σ H1 fun zs H2 => vs.length = n ∧ zs.length = j ∧
  ∀ x dx, H2 x = none → H2 dx = none → dx ≠ x → sp (gV (.ref x :: vs) zs) (upd (upd H2 dx (.own x)) x (.ins C dx [])) (fun v H3 => v = .non ∧ Q (.ref x) H3) E0
section
variable {X : Cx} {k n : Nat} {f C : Addr} {fd : FuncData} {ps ks : List Str} {sp : Sp} {x m : Str} {p pos apos : Pos} {e o : Expr} {es : List Expr} {kws : List Keyword} {ta : TE} {t tk : TA} {g : List Value → List Value → List Value} {gV : List V → List V → List V}
theorem pe_mgN0 {pl : Sem Bool} (he : PE X o ta) (c : Cls X.K C) (hm : Meth X.K C m f) (F : FnG X.prog X.w X.K X.mg X.base k f fd ps sp) (hr : RoomG k X.A) (hb : KBn X.K fd ps 1 ks g gV) (hkw : PK X kws tk)
    (hall : (backToKw pos (keywordEach kws X.env)).all (·.1.isSome) = true := by rfl) (hks : (backToKw pos (keywordEach kws X.env)).filterMap (·.1) = ks := by rfl)
    (hpl : ((backTo pos (starEach [] X.env)).any (·.1) || (backToKw pos (keywordEach kws X.env)).any (·.1.isNone)) = false := by rfl)
    (ht : eval (.Call (.Attribute o m apos) [] kws pos) X.env = (eval o X.env >>= fun ov => standAt apos.atName >>= fun _ => holding [ov] (getMethod ov m pl) >>= fun fr => callWith pos fr.1 fr.2 (backTo pos (starEach [] X.env)) (backToKw pos (keywordEach kws X.env))) := by rfl) :
    PE X (.Call (.Attribute o m apos) [] kws pos) (tMethN C m 0 ks.length sp gV ta tNil tk) := by
  refine ⟨fun pins st σ H Q I h => PySem.W.methodCall_KW (pl := pl) (thn (he.run pins st σ H _ I h) fun u t1 ⟨x, H1, I1, rx, a, dx, fs, ex, ea, l, q⟩ => ?_) ht⟩
  subst ex
  cases rx
  refine getmeth_ok I1 ea c hm l (PySem.W.callWith_KW0 (first := [.ref a]) (h₀ := X.base) I.ok.mod.kin hm.kp hall (thn (hkw.run pos pins t1 σ H1 _ I1 q) fun ws t2 ⟨zs, H2, I2, rz, l1, l2, q2⟩ => ⟨I2.kIn, ?_⟩) hpl)
  rw [hks]
  exact run_gK (us := [.ref a]) (vs := [.ref a]) F hr hb I2 (.cons rfl .nil) rz rfl l2 q2
theorem pe_mgN {pl : Sem Bool} (he : PE X o ta) (c : Cls X.K C) (hm : Meth X.K C m f) (F : FnG X.prog X.w X.K X.mg X.base k f fd ps sp) (hr : RoomG k X.A) (hb : KBn X.K fd ps (n + 1) ks g gV) (ha : PA X (e :: es) t) (hkw : PK X kws tk)
    (hall : (backToKw pos (keywordEach kws X.env)).all (·.1.isSome) = true := by rfl) (hks : (backToKw pos (keywordEach kws X.env)).filterMap (·.1) = ks := by rfl)
    (hst : starEach (e :: es) X.env = (false, eval e X.env) :: starEach es X.env := by rfl)
    (hpl : ((backTo pos (starEach (e :: es) X.env)).any (·.1) || (backToKw pos (keywordEach kws X.env)).any (·.1.isNone)) = false := by rfl)
    (ht : eval (.Call (.Attribute o m apos) (e :: es) kws pos) X.env = (eval o X.env >>= fun ov => standAt apos.atName >>= fun _ => holding [ov] (getMethod ov m pl) >>= fun fr => callWith pos fr.1 fr.2 (backTo pos (starEach (e :: es) X.env)) (backToKw pos (keywordEach kws X.env))) := by rfl) :
    PE X (.Call (.Attribute o m apos) (e :: es) kws pos) (tMethN C m n ks.length sp gV ta t tk) := by
  refine ⟨fun pins st σ H Q I h => PySem.W.methodCall_KW (pl := pl) (thn (he.run pins st σ H _ I h) fun u t1 ⟨x, H1, I1, rx, a, dx, fs, ex, ea, l, q⟩ => ?_) ht⟩
  subst ex
  cases rx
  refine getmeth_ok I1 ea c hm l (PySem.W.callWith_KW (first := [.ref a]) (h₀ := X.base) I.ok.mod.kin hm.kp hall (thn (ha.run pos pins t1 σ H1 _ I1 q) fun us t2 ⟨vs, H2, I2, r, q2⟩ => thn (hkw.run pos pins t2 σ H2 _ I2 q2) fun ws t3 ⟨zs, H3, I3, rz, l1, l2, q3⟩ => ⟨I3.kIn, ?_⟩) hpl hst)
  rw [hks]
  exact run_gK (us := .ref a :: us) (vs := .ref a :: vs) F hr hb I3 (.cons rfl r) rz (congrArg Nat.succ l1) l2 q3
theorem run_mkN {pins : List (Addr × Obj)} {σ : Sg} {H : Hp} {st : Shared} {Q : VK} {us ws : List Value} {vs zs : List V} (M : Mk X.K C f) (F : FnG X.prog X.w X.K X.mg X.base k f fd ps sp) (hr : RoomG (k + 1) X.A) (hb : KBn X.K fd ps (n + 1) ks g gV) (I : L2.Inv X pins σ H st) (r : Vals vs us) (rz : Vals zs ws) (l1 : vs.length = n) (l2 : zs.length = ks.length)
    (h : ∀ x dx, H x = none → H dx = none → dx ≠ x → sp (gV (.ref x :: vs) zs) (upd (upd H dx (.own x)) x (.ins C dx [])) (fun v H2 => v = .non ∧ Q (.ref x) H2) E0) : wpAny (model X.prog X.w) X.A (call (.ref C) us (ks.zip ws)) (EP X pins σ Q) X.xe st := by
  have q := h (st.heap.objs.size + 1) st.heap.objs.size (I.hok.fresh (Nat.le_succ _)) (I.hok.fresh (Nat.le_refl _)) (Nat.ne_of_lt (Nat.lt_succ_self _))
  have J := Inv.made (C := C) I
  have z1 : Vals (V.ref (st.heap.objs.size + 1) :: vs) (Value.ref (st.heap.objs.size + 1) :: us) := .cons rfl r
  have z2 := hb.rel z1 rz
  have n1 : (Value.ref (st.heap.objs.size + 1) :: us).length = n + 1 := z1.length.symm.trans (congrArg Nat.succ l1)
  refine wpAny_call (make_map (f := f) I.kIn M.makes M.init (beq_iff_eq.mp M.fn) (codeAny_mono (F.go _ X.stack _ _ ⟨Value.ref (st.heap.objs.size + 1) :: us, ks.zip ws⟩ _ _ _ (hr.make C us (ks.zip ws)) (J.env0.make C us (ks.zip ws)) (hb.to _ (Value.ref (st.heap.objs.size + 1) :: us) ws J.kIn n1 (rz.length.symm.trans l2)) z2 q) fun r st' hq => ?_))
  obtain ⟨u, e, v, H', I3, rv, ev, q3⟩ := end_call J hq
  subst e
  subst ev
  exact ⟨rv, ⟨V.ref (st.heap.objs.size + 1), H', I3, rfl, q3⟩⟩
theorem pe_mkN0 (M : Mk X.K C f) (F : FnG X.prog X.w X.K X.mg X.base k f fd ps sp) (hr : RoomG (k + 1) X.A) (hg : Gl X x) (hm : X.mg x = some (.ref C)) (hb : KBn X.K fd ps 1 ks g gV) (hkw : PK X kws tk)
    (hall : (backToKw pos (keywordEach kws X.env)).all (·.1.isSome) = true := by rfl) (hks : (backToKw pos (keywordEach kws X.env)).filterMap (·.1) = ks := by rfl) (hdb : (x == ("__debug__" : Str)) = false := by decide)
    (hpl : ((backTo pos (starEach [] X.env)).any (·.1) || (backToKw pos (keywordEach kws X.env)).any (·.1.isNone)) = false := by rfl) : PE X (.Call (.Name x p) [] kws pos) (tMkN C 0 ks.length sp gV tNil tk) := by
  refine ⟨fun pins st σ H Q I h => wpAny_Call_Name_kw (ld_glob I hg hm (PySem.W.callWith_KW0 (h₀ := X.base) I.ok.mod.kin M.kp hall (thn (hkw.run pos pins st σ H _ I h) fun ws t2 ⟨zs, H2, I2, rz, l1, l2, q2⟩ => ⟨I2.kIn, ?_⟩) hpl) hdb)⟩
  rw [hks]
  exact run_mkN (us := []) (vs := []) M F hr hb I2 .nil rz rfl l2 q2
end
def methKE (c n j : Nat) (F : Fn) (gD : List D → List D → List D) (fo : Ex) (fs ks : Ax) : Ex := fun s => (fo s).bind fun d s => match insOf s d with
  | some (c', _) => if c' = c then (fs s).bind fun ds s => (ks s).bind fun es s => if ds.length = n ∧ es.length = j then callF F (gD (d :: ds) es) s else .bad else .bad
  | none => .bad
def makeKE (c n j : Nat) (F : Fn) (gD : List D → List D → List D) (fs ks : Ax) : Ex := fun s => (fs s).bind fun ds s => (ks s).bind fun es s => if ds.length = n ∧ es.length = j then
    (match callF F (gD (.cel s.sto.length :: ds) es) { s with sto := s.sto ++ [.I c []] } with
    | .ok .non s' => .ok (.cel s.sto.length) s'
    | .exc c d s' => .exc c d s'
    | _ => .bad) else .bad
section
variable {X : Cx} {T : Tb} {F : Fn} {e : Expr} {fs fk : Ax} {n j : Nat} {gV : List V → List V → List V} {gD : List D → List D → List D}
theorem sv_methN_of {c : Nat} {m : Str} {fo : Ex} (hmn : m ∉ T.an) (h : PE X e (tMethN (T.cls c) m n j (spG X.w X.K T F) gV (tO X.w X.K T W0 fo) (tL X.w X.K T W0 fs) (tL X.w X.K T W0 fk))) (hD : KOrd X.w X.K (n + 1) j gV gD) : SV X T W0 e (methKE c n j F gD fo fs fk) := by
  refine PE.imp h fun σ H Q ⟨G, s, I, q⟩ => ?_
  refine tO_bind I q fun d s1 H1 G1 v b J r q => ?_
  cases h1 : insOf s1 d with
  | none => rw [h1] at q; exact q.elim
  | some cf =>
    obtain ⟨c', gs'⟩ := cf
    simp only [h1] at q
    split at q
    · rename_i ec
      obtain ⟨i, dx, gs, rfl, hn, rfl, hc, h3, h4, _⟩ := insOf_ok J r h1
      refine ⟨_, dx, gs, rfl, by rw [h3, ec], h4.none hmn, ?_⟩
      have rn : Rep X.w X.K H1 G1 (.ref (G1.rho i)) (.cel i) := .cel hn
      refine tL_bind J (hV b q) fun ds s2 H2 G2 vs b2 J2 r2 q2 => ?_
      refine tL_bind J2 (hV b2 q2) fun es s3 H3 G3 zs b3 J3 r3 q3 => ?_
      split at q3
      · rename_i hl
        have rv : RepL X.w X.K H3 G3 (.ref (G1.rho i) :: vs) (.cel i :: ds) := .cons ((rn.kp (J.kp b2)).kp (J2.kp b3)) (r2.kp (J2.kp b3))
        exact ⟨by rw [r2.length]; exact hl.1, by rw [r3.length]; exact hl.2, call_sp J3 (hD _ _ _ _ _ _ (by rw [rv.length]; exact congrArg Nat.succ hl.1) (by rw [r3.length]; exact hl.2) rv r3) (hV b3 q3)⟩
      · exact q3.elim
    · exact q.elim
theorem sv_mkN_of {c : Nat} (hc : c < T.nc) (h : PE X e (tMkN (T.cls c) n j (spG X.w X.K T F) gV (tL X.w X.K T W0 fs) (tL X.w X.K T W0 fk))) (hD : KOrd X.w X.K (n + 1) j gV gD) : SV X T W0 e (makeKE c n j F gD fs fk) := by
  refine PE.imp h fun σ H Q ⟨G, s, I, q⟩ => ?_
  refine tL_bind I q fun ds s1 H1 G1 vs b J r q => ?_
  refine tL_bind J (hV b q) fun es s2 H2 G2 zs b2 J2 r2 q => ?_
  split at q
  · rename_i hl
    refine ⟨by rw [r.length]; exact hl.1, by rw [r2.length]; exact hl.2, fun x dx hx hdx ne => ?_⟩
    have I1 : StR X.w X.K T σ (upd H2 dx (.own x)) G2 s2 := J2.fresh0 hdx
    have b3 : Stp σ H2 G2 s2 σ (upd H2 dx (.own x)) G2 s2 := Stp.fresh0 hdx
    have hx1 : upd H2 dx (.own x) x = none := by rw [upd_ne (Ne.symm ne)]; exact hx
    have I2 : StR X.w X.K T σ (upd (upd H2 dx (.own x)) x (.ins (T.cls c) dx [])) (G2.cell x) { s2 with sto := s2.sto ++ [.I c []] } := I1.ncell hx1 ⟨hc, dx, [], upd_same, .nil⟩
    have b4 : Stp σ (upd H2 dx (.own x)) G2 s2 σ (upd (upd H2 dx (.own x)) x (.ins (T.cls c) dx [])) (G2.cell x) { s2 with sto := s2.sto ++ [.I c []] } := Stp.ncell hx1
    have rx : Rep X.w X.K (upd (upd H2 dx (.own x)) x (.ins (T.cls c) dx [])) (G2.cell x) (.ref x) (.cel s2.sto.length) := by
      have := Rep.cel (w := X.w) (K := X.K) (H := upd (upd H2 dx (.own x)) x (.ins (T.cls c) dx [])) (G := G2.cell x) (n := G2.n) (Nat.lt_succ_self _)
      rw [Wd.cell_new] at this
      rw [J2.cnt]
      exact this
    have k := fun {v d} (z : Rep X.w X.K H2 G2 v d) => (z.kp (J2.kp b3)).kp (I1.kp b4)
    refine call_sp (σ := σ) I2 (hD _ _ _ _ _ _ (by rw [List.length_cons, r.length]; exact congrArg Nat.succ hl.1) (by rw [r2.length]; exact hl.2) (.cons rx (((r.kp (J.kp b2)).kp (J2.kp b3)).kp (I1.kp b4))) ((r2.kp (J2.kp b3)).kp (I1.kp b4))) ?_
    have q := hV b2 q
    cases e1 : callF F (gD (.cel s2.sto.length :: ds) es) { s2 with sto := s2.sto ++ [.I c []] } with
    | ok d s3 =>
      rw [e1] at q
      cases d with
      | non =>
        intro H' G' v b5 J5 rv
        cases rv
        exact ⟨rfl, q _ _ _ ((b3.trans b4).trans b5) J5 (rx.kp (I2.kp b5))⟩
      | _ => exact q.elim
    | exc c d s1 => rw [e1] at q; exact q.1.elim
    | bad => rw [e1] at q; exact q
  · exact q.elim
end
end G

set_option Elab.async false
set_option linter.all false
set_option maxRecDepth 100000
set_option maxHeartbeats 4000000
namespace G
open PySem PySem.Spec PyProof.Rows L2
open PySem.W (AlikeAll dataLt reads_keeps iter_tupleW cmpIn_lt moved_old minD min_list_data alike)
/-! ### min of data -/
section
variable {prog : Program} {w : World} {A : Around} {E : Value → Shared → Prop} {t : Shared}
theorem min_two_walk {a b : Value} {Q : Value → Shared → Prop}
    (go : wpAny (model prog w) A.in1 (pyIter (.ref t.heap.objs.size)) (fun it t2 => ∃ J fq wq Gn n Pt Sq Hh bt, it = .ref J ∧ WalksS prog w A.in1 J fq wq Gn n Pt Sq ∧ Sq 0 t2 ∧ (∀ c ∈ fq, c < t2.heap.objs.size) ∧ 0 < n ∧
      (∀ c o, Hh.get? c = some o → c ∉ wq) ∧ (∀ c o, Hh.get? c = some o → t2.heap.get? c = some o) ∧ CmpIn prog w A.in1 .Lt Hh Pt bt ∧ ∀ v t3, Pt (argBest bt (n - 1)) v → Moved wq Gn t2 t3 → Q v t3) E
      { t with heap := t.heap.push { cls := .type "tuple", data := .seq #[a, b] } }) : wpAny (model prog w) A (call (.builtin "min") [a, b]) Q E t := by
  have nm : (toString "min" ++ toString ".loop" : String) = "min.loop" := by decide
  refine call_function_tree PySem.F.kind_min PySem.F.plain_min PySem.F.entry_min (PySem.F.args_min2 _ _) ?_
  show wpAny _ A.in1 (Builtin.Builtins.bindParams "min" ["key", "default"] 0 ⟨[], []⟩ >>= _) _ _ t
  refine wpAny_bind (wpAny_of_eq (show Builtin.Builtins.bindParams "min" ["key", "default"] 0 ⟨[], []⟩ = pure [none, none] from rfl) ?_)
  show wpAny _ A.in1 (newTuple [a, b] >>= _) _ _ t
  refine wpAny_bind (wpAny_newObj_type ?_)
  refine wpAny_bind (wpAny_mono go (fun it t2 z => ?_) fun _ _ z => z)
  obtain ⟨J, fq, wq, Gn, n, Pt, Sq, Hh, bt, rfl, W, st0, below, npos, apart, keep, cmp, fin⟩ := z
  refine wpAny_bind (wpAny_newObj_type ?_)
  have notIn : t2.heap.objs.size ∉ fq := fun z => Nat.lt_irrefl _ (below _ z)
  rw [nm]
  refine wpAny_pure ⟨plainId_quiet PySem.F.plain_min_loop _, codeAny_min_loop_firstH W Hh apart bt cmp t2.heap.objs.size notIn (fresh_in keep) _ npos (fun c o e => Heap.get?_push_of_some _ (keep c o e)) (W.frame 0 t2 _ t2.toks st0 (Nat.le_refl _) fun c _ o e => Heap.get?_push_of_some _ e) (Heap.get?_push_size _ rfl) fun v t3 hP hm => ?_⟩
  exact fin v t3 hP (Moved.drop_new (tk := t2.toks) hm (Nat.le_refl _))
theorem min_two_data {a b : Value} {x y : PyData} {p q : List Addr} {Q : Value → Shared → Prop} (h0 : A.handled = none) (r1 : Reads t.heap a x p) (r2 : Reads t.heap b y q) (al : AlikeAll [x, y]) (hu : A.units + 1 + PyData.depthAll [x, y] < cLine)
    (fin : ∀ h' tk, (∀ c o, t.heap.get? c = some o → h'.get? c = some o) → Q (if dataLt y x then b else a) { t with heap := h', toks := tk }) : wpAny (model prog w) A (call (.builtin "min") [a, b]) Q E t := by
  refine min_two_walk ?_
  have hT : (t.heap.push { cls := .type "tuple", data := .seq #[a, b] }).IsTuple t.heap.objs.size #[a, b] := ⟨_, Heap.get?_push_size _ rfl, rfl, 0, rfl⟩
  have k1 : ∀ c o, t.heap.get? c = some o → (t.heap.push { cls := .type "tuple", data := .seq #[a, b] }).get? c = some o := fun c o e => Heap.get?_push_of_some _ e
  have hr : ReadsAll (t.heap.push { cls := .type "tuple", data := .seq #[a, b] }) (#[a, b] : Array Value).toList [x, y] (p ++ (q ++ [])) := .cons (reads_keeps k1 r1) (.cons (reads_keeps k1 r2) .nil)
  refine iter_tupleW (s := { t with heap := t.heap.push { cls := .type "tuple", data := .seq #[a, b] } }) (A := A.in1) h0 hT fun s2 e W st hfp hw hk => ?_
  refine ⟨_, _, _, _, _, _, _, (t.heap.push { cls := .type "tuple", data := .seq #[a, b] }), _, rfl, W, st, hfp, by show 0 < 2; decide, hw, hk, cmpIn_lt (s := { t with heap := t.heap.push { cls := .type "tuple", data := .seq #[a, b] } }) (A := A.in1) hr al (by show A.units + 1 + _ < _; exact hu), fun v t3 hP m => ?_⟩
  obtain ⟨h', tk, rfl, hk'⟩ := moved_old e rfl m
  have := fin h' tk fun c o z => hk' c o (k1 c o z)
  have hP : (#[a, b] : Array Value)[argBest (fun i j => dataLt ([x, y].getD i .none) ([x, y].getD j .none)) 1]? = some v := hP
  have e1 : argBest (fun i j => dataLt ([x, y].getD i .none) ([x, y].getD j .none)) 1 = if dataLt y x then 1 else 0 := rfl
  rw [e1] at hP
  by_cases z : dataLt y x = true
  · rw [if_pos z] at hP this
    cases hP
    exact this
  · rw [if_neg z] at hP this
    cases hP
    exact this
end
/-- the least, the first one of equals -/
def leastD : D → List D → D
  | a, [] => a
  | a, y :: r => leastD (if dataLt (py y) (py a) then y else a) r
theorem leastD_py : ∀ (ys : List D) (a : D), py (leastD a ys) = minD (py a) (pys ys)
  | [], a => rfl
  | y :: r, a => by
    show py (leastD (if dataLt (py y) (py a) then y else a) r) = minD (if dataLt (py y) (py a) then py y else py a) (pys r)
    rw [leastD_py r]
    by_cases h : dataLt (py y) (py a) = true
    · rw [if_pos h, if_pos h]
    · rw [if_neg h, if_neg h]
theorem leastD_mem : ∀ (ys : List D) (a : D), leastD a ys ∈ a :: ys
  | [], a => List.mem_cons_self
  | y :: r, a => by
    have := leastD_mem r (if dataLt (py y) (py a) then y else a)
    show leastD (if dataLt (py y) (py a) then y else a) r ∈ _
    rcases List.mem_cons.mp this with h | h
    · rw [h]
      by_cases z : dataLt (py y) (py a) = true
      · rw [if_pos z]; exact List.mem_cons_of_mem _ List.mem_cons_self
      · rw [if_neg z]; exact List.mem_cons_self
    · exact List.mem_cons_of_mem _ (List.mem_cons_of_mem _ h)
mutual
theorem py_inj : ∀ (d e : D) (n : Nat), dat n d = true → dat n e = true → py d = py e → d = e
  | .non, e, n, _, he, h => by cases e <;> first | rfl | (simp [py] at h; done) | (cases n <;> cases he)
  | .bl a, e, n, _, he, h => by cases e <;> first | (simp [py] at h; done) | (simp only [py, PyData.bool.injEq] at h; rw [h]) | (cases n <;> cases he)
  | .int a, e, n, _, he, h => by cases e <;> first | (simp [py] at h; done) | (simp only [py, PyData.int.injEq] at h; rw [h]) | (cases n <;> cases he)
  | .str a, e, n, _, he, h => by cases e <;> first | (simp [py] at h; done) | (simp only [py, PyData.str.injEq] at h; rw [toStr_inj h]) | (cases n <;> cases he)
  | .lst xs, e, n, hd, he, h => by
    cases e with
    | lst ys =>
      cases n with
      | zero => cases hd
      | succ n =>
        simp only [py, PyData.list.injEq] at h
        rw [pys_inj xs ys n hd he h]
    | _ => first | (simp [py] at h; done) | (cases n <;> cases he)
  | .tup xs, e, n, hd, he, h => by
    cases e with
    | tup ys =>
      cases n with
      | zero => cases hd
      | succ n =>
        simp only [py, PyData.tuple.injEq] at h
        rw [pys_inj xs ys n hd he h]
    | _ => first | (simp [py] at h; done) | (cases n <;> cases he)
  | .dct _, _, n, hd, _, _ => by cases n <;> cases hd
  | .cel _, _, n, hd, _, _ => by cases n <;> cases hd
  | .own _, _, n, hd, _, _ => by cases n <;> cases hd
  | .scr _, _, n, hd, _, _ => by cases n <;> cases hd
theorem pys_inj : ∀ (xs ys : List D) (n : Nat), xs.all (dat n) = true → ys.all (dat n) = true → pys xs = pys ys → xs = ys
  | [], ys, _, _, _, h => by cases ys <;> first | rfl | (simp [pys] at h)
  | x :: xs, ys, n, hx, hy, h => by
    cases ys with
    | nil => simp [pys] at h
    | cons y ys =>
      rw [List.all_cons, Bool.and_eq_true] at hx hy
      simp only [pys, List.cons.injEq] at h
      rw [py_inj x y n hx.1 hy.1 h.1, pys_inj xs ys n hx.2 hy.2 h.2]
end
def datsOk (ds : List D) : Bool := ds.all (dat 50) && (ds.all fun x => (match x with | .non => false | _ => true) && ds.all fun y => alikeD x y)
theorem datsOk_ok {ds : List D} (h : datsOk ds = true) : ds.all (dat 50) = true ∧ AlikeAll (pys ds) ∧ PyData.depthAll (pys ds) ≤ 50 ∧ ∀ x ∈ pys ds, x.canLay0 = true := by
  unfold datsOk at h
  rw [Bool.and_eq_true] at h
  have all := fun x hx => List.all_eq_true.mp h.1 x hx
  have mem : ∀ x ∈ pys ds, ∃ d ∈ ds, x = py d := fun x hx => by
    rw [pys_map] at hx
    obtain ⟨d, h1, h2⟩ := List.mem_map.mp hx
    exact ⟨d, h1, h2.symm⟩
  refine ⟨h.1, ⟨fun x hx y hy => ?_, fun x hx => ?_⟩, ?_, fun x hx => ?_⟩
  · obtain ⟨d, h1, rfl⟩ := mem x hx
    obtain ⟨e, h2, rfl⟩ := mem y hy
    have := List.all_eq_true.mp h.2 d h1
    rw [Bool.and_eq_true] at this
    exact alikeD_ok d e (List.all_eq_true.mp this.2 e h2)
  · obtain ⟨d, h1, rfl⟩ := mem x hx
    have := List.all_eq_true.mp h.2 d h1
    rw [Bool.and_eq_true] at this
    have hd := all d h1
    cases d with
    | non => exact absurd this.1 (by simp)
    | bl _ => exact fun z => nomatch z
    | int _ => exact fun z => nomatch z
    | str _ => exact fun z => nomatch z
    | lst _ => exact fun z => nomatch z
    | tup _ => exact fun z => nomatch z
    | _ => cases hd
  · have : ∀ es : List D, es.all (dat 50) = true → PyData.depthAll (pys es) ≤ 50 := fun es => by
      induction es with
      | nil => exact fun _ => Nat.zero_le _
      | cons e es ih =>
        intro h
        rw [List.all_cons, Bool.and_eq_true] at h
        exact Nat.max_le.mpr ⟨(dat_canLay 50 e h.1).2, ih h.2⟩
    exact this ds h.1
  · obtain ⟨d, h1, rfl⟩ := mem x hx
    exact (dat_canLay 50 d (all d h1)).1
section
variable {X : Cx} {T : Tb} {W : Wi}
def leastO : Op := fun ds s => match ds with
  | [d] => (match coList (content s d) with
    | some (y :: ys) => if datsOk (y :: ys) then .ok (leastD y ys) s else .bad
    | _ => .bad)
  | [a, b] => if datsOk [a, b] then .ok (leastD a [b]) s else .bad
  | _ => .bad
def rLeast (X : Cx) : List V → Hp → VK → Prop := fun args H Q => (∃ a vs x xs, args = [.ref a] ∧ SqL X.K H a vs ∧ DpAll X.K H vs (x :: xs) ∧ AlikeAll (x :: xs) ∧ PyData.depthAll (x :: xs) ≤ 50 ∧ (∀ z ∈ x :: xs, z.canLay0 = true) ∧ ∀ (i : Nat) v, vs[i]? = some v → (x :: xs)[i]? = some (minD x xs) → Q v H) ∨
  ∃ v u x y, args = [v, u] ∧ Dp X.K H v x ∧ Dp X.K H u y ∧ AlikeAll [x, y] ∧ PyData.depthAll [x, y] ≤ 50 ∧ Q (if dataLt y x then u else v) H
theorem dpAll_get {K : PySem.W.Frag} {H : Hp} : ∀ {vs : List V} {ds : List PyData} {i : Nat} {v : V}, DpAll K H vs ds → vs[i]? = some v → ∃ d, ds[i]? = some d ∧ Dp K H v d
  | _, _, _, _, .nil, e => by simp at e
  | _, _, 0, _, .cons a _, e => by simp at e; subst e; exact ⟨_, rfl, a⟩
  | _, _, i + 1, v, .cons _ r, e => by
    obtain ⟨d, h1, h2⟩ := dpAll_get (i := i) (v := v) r (by simpa using e)
    exact ⟨d, by simpa using h1, h2⟩
theorem cr_least (hc : X.calm = true) (hu : X.A.units + 60 < cLine) : CallR X (.builtin "min") (rLeast X) := by
  intro pins st σ H args us Q I r h
  rcases h with ⟨a, vs, x, xs, e, h1, h2, h3, h4, h5, q⟩ | ⟨v, u, x, y, e, h1, h2, h3, h4, q⟩
  · subst e
    obtain ⟨its, rv, hl, _⟩ := I.list h1
    rw [Vals.ref1 r]
    obtain ⟨as, hr⟩ := Dp.readsAll I (x :: xs) vs its h2 rv
    refine min_list_data (vs := its.toArray) (I.ok.hd hc) hl.isList (by simpa using hr) h3 (by omega) fun i z h' tk bs hz rz keep => ?_
    rw [List.getElem?_toArray] at hz
    have il : i < vs.length := by rw [rv.length]; exact (List.getElem?_eq_some_iff.mp hz).1
    obtain ⟨u2, hu2, ru2⟩ := rv.get (List.getElem?_eq_getElem il)
    rw [hz] at hu2; cases hu2
    obtain ⟨d, e1, e2⟩ := dpAll_get h2 (List.getElem?_eq_getElem il)
    obtain ⟨as2, r2⟩ := Dp.reads I d _ z e2 ru2
    have e3 : d = minD x xs := (Reads.unique (reads_keeps keep r2) _ _ rz).1
    exact ⟨_, H, I.kept keep, ru2, q i _ (List.getElem?_eq_getElem il) (by rw [e1, e3])⟩
  · subst e
    cases r with
    | cons r1 r2 =>
      cases r2 with
      | cons r3 r4 =>
        cases r4
        obtain ⟨p1, k1⟩ := Dp.reads I x v _ h1 r1
        obtain ⟨p2, k2⟩ := Dp.reads I y u _ h2 r3
        refine min_two_data (I.ok.hd hc) k1 k2 h3 (by omega) fun h' tk keep => ?_
        refine ⟨_, H, I.kept keep, ?_, q⟩
        by_cases z : dataLt y x = true
        · rw [if_pos z, if_pos z]; exact r3
        · rw [if_neg z, if_neg z]; exact r1
theorem least_ok : OpOk X T W leastO (rLeast X) := fun σ H G s xs ds Q I r q => by
  unfold leastO at q
  split at q
  · rename_i d
    obtain ⟨v, rfl, r1⟩ := r.one
    split at q
    · rename_i y ys hcl
      split at q
      · rename_i ok
        obtain ⟨o1, o2, o3, o4⟩ := datsOk_ok ok
        cases hc : content s d with
        | none => rw [hc] at hcl; cases hcl
        | some c =>
          rw [hc] at hcl
          cases c with
          | L zs =>
            cases hcl
            obtain ⟨a, vs, rfl, h2, h3⟩ := content_L I r1 hc
            refine .inl ⟨a, vs, py y, pys ys, rfl, .inl (.inl h2), RepL.dp 50 h3 o1, o2, o3, o4, fun i v hv e => ?_⟩
            obtain ⟨d', e1, e2⟩ := h3.getV hv
            have e3 : (pys (y :: ys))[i]? = some (minD (py y) (pys ys)) := e
            rw [pys_map, List.getElem?_map, e1, ← leastD_py] at e3
            have e4 : py d' = py (leastD y ys) := Option.some.inj e3
            have m1 := List.all_eq_true.mp o1 d' (List.mem_of_getElem? e1)
            have m2 := List.all_eq_true.mp o1 _ (leastD_mem ys y)
            rw [py_inj _ _ 50 m1 m2 e4] at e2
            exact done I q e2
          | _ => cases hcl
      · exact q.elim
    · exact q.elim
  · rename_i a b
    split at q
    · rename_i ok
      obtain ⟨o1, o2, o3, o4⟩ := datsOk_ok ok
      obtain ⟨v, u, rfl, r1, r2⟩ := r.two
      have da := List.all_eq_true.mp o1 a List.mem_cons_self
      have db := List.all_eq_true.mp o1 b (List.mem_cons_of_mem _ List.mem_cons_self)
      have p1 : Rep X.w X.K H G v a := by cases a <;> first | exact r1 | (cases da)
      have p2 : Rep X.w X.K H G u b := by cases b <;> first | exact r2 | (cases db)
      refine .inr ⟨v, u, py a, py b, rfl, Rep.dp 50 p1 da, Rep.dp 50 p2 db, o2, o3, ?_⟩
      have q : (R.ok (if dataLt (py b) (py a) then b else a) s).holds (PV X.w X.K T Q σ H G s) (PX X.w X.K T W σ H G s) := q
      by_cases z : dataLt (py b) (py a) = true
      · rw [if_pos z] at q ⊢; exact done I q p2
      · rw [if_neg z] at q ⊢; exact done I q p1
    · exact q.elim
  · exact q.elim
end
end G

set_option Elab.async false
set_option linter.all false
set_option maxRecDepth 100000
set_option maxHeartbeats 4000000
namespace G
open PySem PySem.Spec PyProof.Rows L2
/-! ### d == {}, d != {} -/
section
variable {prog : Program} {w : World} {A : Around} {E : Value → Shared → Prop} {t : Shared}
theorem same_empty {nm : String} {a b : Addr} {es : Array DictEntry} {ep ep2 : Nat} {Q : Bool → Shared → Prop} (ha : (a == sysModules) = false) (hb : (b == sysModules) = false) (da : t.heap.DictRaw a es ep) (db : t.heap.DictRaw b #[] ep2) (h : Q es.isEmpty t) :
    wpAny (model prog w) A (Builtin.Dict.samePairs nm a b) Q E t := by
  obtain ⟨oa, e1, _, e2⟩ := da
  obtain ⟨ob, e3, _, e4⟩ := db
  unfold Builtin.Dict.samePairs Builtin.Dict.showsAll
  rw [if_neg (by rw [ha]; exact Bool.false_ne_true), if_neg (by rw [hb]; exact Bool.false_ne_true)]
  refine wpAny_bind (wpAny_pure (wpAny_bind (wpAny_pure ?_)))
  refine wpAny_bind (wpAny_dictEntries e1 e2 ?_)
  dsimp only
  refine wpAny_bind (wpAny_dictEntries e3 e4 ?_)
  by_cases z : es.size = 0
  · have ez : es = #[] := Array.eq_empty_of_size_eq_zero z
    subst ez
    rw [if_neg (by simp)]
    refine wpAny_bind (wpAny_dictEpoch e1 e2 ?_)
    refine wpAny_bind ?_
    rw [Std.Legacy.Range.forIn_eq_forIn_range']
    simp only [Std.Legacy.Range.size, Nat.sub_zero, Nat.add_sub_cancel, Nat.div_one]
    exact wpAny_pure (wpAny_pure h)
  · rw [if_pos (by simpa using z)]
    have : es.isEmpty = false := by simpa [Array.isEmpty] using z
    rw [this] at h
    exact wpAny_bind (wpAny_rule (wpAny_pure h))
theorem eq_empty {a b : Addr} {es : Array DictEntry} {ep ep2 : Nat} {Q : Value → Shared → Prop} (ha : (a == sysModules) = false) (hb : (b == sysModules) = false) (da : t.heap.DictRaw a es ep) (db : t.heap.DictRaw b #[] ep2) (hu : A.units < cLine) (h : Q (.bool es.isEmpty) t) :
    wpAny (model prog w) A (compareOp .Eq (.ref a) (.ref b)) Q E t := by
  have ta : t.TypeIs (.ref a) "dict" := by obtain ⟨o, h1, h2, _⟩ := da; exact ⟨o, h1, h2.1⟩
  have tb : t.TypeIs (.ref b) "dict" := by obtain ⟨o, h1, h2, _⟩ := db; exact ⟨o, h1, h2.1⟩
  refine wpAny_richCompare_same_room (op := .Eq) ta tb PySem.F.slot_dict_eq (wpAny_call_entry PySem.F.slot_dict_eq ta PySem.F.entry_dict_eq ?_ (PySem.F.args_dict_eq_2 _ _)) hu
  show wpAny _ _ (Builtin.Dict.dictSlotArgs "__eq__" ⟨[.ref a, .ref b], []⟩ >>= _) _ _ t
  refine wpAny_bind ?_
  unfold Builtin.Dict.dictSlotArgs
  refine wpAny_bind (wpAny_notOrdered_dict ta ?_)
  show wpAny _ _ (pure (Value.ref a, Value.ref b)) _ _ t
  refine wpAny_pure ?_
  refine wpAny_bind (wpAny_isInstance (T := "dict") tb PySem.F.sub_dict_dict ?_)
  simp only [Bool.not_true, Bool.false_eq_true, if_false]
  refine wpAny_bind (wpAny_pure (wpAny_bind (wpAny_pure ?_)))
  exact wpAny_bind (same_empty ha hb da db (wpAny_pure ⟨_, rfl, (fun z => nomatch z), (by simpa using h)⟩))
theorem ne_empty {a b : Addr} {es : Array DictEntry} {ep ep2 : Nat} {Q : Value → Shared → Prop} (ha : (a == sysModules) = false) (hb : (b == sysModules) = false) (da : t.heap.DictRaw a es ep) (db : t.heap.DictRaw b #[] ep2) (hu : A.units < cLine) (h : Q (.bool (!es.isEmpty)) t) :
    wpAny (model prog w) A (compareOp .NotEq (.ref a) (.ref b)) Q E t := by
  have ta : t.TypeIs (.ref a) "dict" := by obtain ⟨o, h1, h2, _⟩ := da; exact ⟨o, h1, h2.1⟩
  have tb : t.TypeIs (.ref b) "dict" := by obtain ⟨o, h1, h2, _⟩ := db; exact ⟨o, h1, h2.1⟩
  refine wpAny_richCompare_same_room (op := .NotEq) ta tb PySem.F.slot_dict_ne (wpAny_call_entry PySem.F.slot_dict_ne ta PySem.F.entry_dict_ne ?_ (PySem.F.args_dict_ne_2 _ _)) hu
  show wpAny _ _ (Builtin.Dict.dictSlotArgs "__ne__" ⟨[.ref a, .ref b], []⟩ >>= _) _ _ t
  refine wpAny_bind ?_
  unfold Builtin.Dict.dictSlotArgs
  refine wpAny_bind (wpAny_notOrdered_dict ta ?_)
  show wpAny _ _ (pure (Value.ref a, Value.ref b)) _ _ t
  refine wpAny_pure ?_
  refine wpAny_bind (wpAny_isInstance (T := "dict") tb PySem.F.sub_dict_dict ?_)
  simp only [Bool.not_true, Bool.false_eq_true, if_false]
  refine wpAny_bind (wpAny_pure (wpAny_bind (wpAny_pure ?_)))
  exact wpAny_bind (same_empty ha hb da db (wpAny_pure ⟨_, rfl, (fun z => nomatch z), (by simpa using h)⟩))
end
def emB (s : S) (d e : D) : Option Bool := match content s d, content s e with
  | some (.M kvs), some (.M []) => some kvs.isEmpty
  | _, _ => none
def eqMD : D → D → Ex := fun d e s => truR s (emB s d e)
def neMD : D → D → Ex := fun d e s => truR s ((emB s d e).map not)
theorem truths_eqM : Truths eqMD := truths_truR
theorem truths_neM : Truths neMD := truths_truR (f := fun s d e => (emB s d e).map not)
section
variable {X : Cx} {T : Tb} {W : Wi}
theorem emB_at {pins : List (Addr × Obj)} {st : Shared} {σ : Sg} {H : Hp} {G : Wd} {s : S} {x y : V} {v u : Value} {d e : D} {b : Bool} (I : Inv X pins σ H st) (rx : RelV x v) (ry : RelV y u) (J : StR X.w X.K T σ H G s) (r1 : RepT X.w X.K σ H G s x d) (r2 : RepT X.w X.K σ H G s y e) (h : emB s d e = some b) :
    ∃ p q es ep ep2, v = .ref p ∧ u = .ref q ∧ (p == sysModules) = false ∧ (q == sysModules) = false ∧ st.heap.DictRaw p es ep ∧ st.heap.DictRaw q #[] ep2 ∧ b = es.isEmpty := by
  unfold emB at h
  split at h
  · rename_i kvs h1 h2
    cases h
    obtain ⟨p, es, rfl, k1, k2, k3⟩ := content_M J r1 h1
    obtain ⟨q, fs, rfl, k4, k5, k6⟩ := content_M J r2 h2
    obtain rfl : v = Value.ref p := rx
    obtain rfl : u = Value.ref q := ry
    obtain ⟨z1, z2, z3⟩ := dct_raw I k1
    obtain ⟨z4, z5, z6⟩ := dct_raw I k4
    have ef : fs.l = [] := by
      have := k5.length
      exact List.eq_nil_of_length_eq_zero (by simpa using this)
    rw [ef] at z6
    refine ⟨p, q, _, _, _, rfl, rfl, z1, z4, z3, z6, ?_⟩
    have l := k2.length
    cases kvs with
    | nil =>
      have : es.l = [] := List.eq_nil_of_length_eq_zero (by simpa using l)
      rw [this]; rfl
    | cons a r =>
      cases hh : es.l with
      | nil => rw [hh] at l; simp at l
      | cons c r2 => simp
  · cases h
theorem b2_eqM (hu : X.A.units + 64 < cLine) : B2 X T W (compareOp .Eq) eqMD := by
  intro pins st σ H x y v u G s d e Q I rx ry J r1 r2 q
  unfold eqMD at q
  cases h : emB s d e with
  | none => rw [h] at q; exact q.elim
  | some b =>
    rw [h] at q
    obtain ⟨p, p2, es, ep, ep2, rfl, rfl, z1, z2, z3, z4, z5⟩ := emB_at I rx ry J r1 r2 h
    exact eq_empty z1 z2 z3 z4 (by omega) ⟨.bl b, H, I, by rw [z5]; rfl, q _ _ _ Stp.refl J (.bl b)⟩
theorem b2_neM (hu : X.A.units + 64 < cLine) : B2 X T W (compareOp .NotEq) neMD := by
  intro pins st σ H x y v u G s d e Q I rx ry J r1 r2 q
  unfold neMD at q
  cases h : emB s d e with
  | none => rw [h] at q; exact q.elim
  | some b =>
    rw [h] at q
    obtain ⟨p, p2, es, ep, ep2, rfl, rfl, z1, z2, z3, z4, z5⟩ := emB_at I rx ry J r1 r2 h
    exact ne_empty z1 z2 z3 z4 (by omega) ⟨.bl (!b), H, I, by rw [z5]; rfl, q _ _ _ Stp.refl J (.bl _)⟩
/-! ### enumerate of a tuple, xs + ys and xs[..] as new lists -/
def addF (fa fb : Ex) : Fx := fun s => (fa s).bind fun d s => (fb s).bind fun e s => match content s d, content s e with
  | some (.L xs), some (.L ys) => if xs.length + ys.length ≤ line then .ok (.L (xs ++ ys)) s else .bad
  | _, _ => .bad
/-! ### keywords, wired -/
theorem pe_nilM {e : Expr} {C : Addr} {m : Str} {j : Nat} {sp : Sp} {gV : List V → List V → List V} {ta : TE} {tk : TA} (h : PE X e (tMethN C m 0 j sp gV ta tNil tk)) (mono : ∀ (σ : Sg) (H : Hp) (Q Q' : VK), (∀ v H', Q v H' → Q' v H') → ta σ H Q → ta σ H Q') : PE X e (tMethN C m 0 j sp gV ta (tL X.w X.K T W0 nilA) tk) :=
  PE.imp h fun σ H Q q => mono _ _ _ _ (fun v H1 ⟨a, dx, fs, e1, e2, e3, G, s, I, q⟩ => ⟨a, dx, fs, e1, e2, e3, q _ _ _ Stp.refl I .nil⟩) q
theorem pe_nilN {e : Expr} {C : Addr} {j : Nat} {sp : Sp} {gV : List V → List V → List V} {tk : TA} (h : PE X e (tMkN C 0 j sp gV tNil tk)) : PE X e (tMkN C 0 j sp gV (tL X.w X.K T W0 nilA) tk) :=
  PE.imp h fun σ H Q ⟨G, s, I, q⟩ => q _ _ _ Stp.refl I .nil
end
theorem kbn_permD {K : PySem.W.Frag} {x qual : Str} {params : Arguments} {body : List Stmt} {scope : Scope} {dvs : List V} {f : Addr} {fd : FuncData} {ps ks : List Str} {n j : Nat} (ix : List Nat) (F : FunD K x qual params body scope dvs [] f fd) (hd : dvs ≠ []) (hj : dvs.length = j)
    (h : ∀ (T : Addr) (kV doc pm : Value) (an : Option Addr) (cdv ct : Value) (us its ws : List Value), us.length = n → its.length = j → ws.length = ks.length →
      ∃ k, bindArgs (PySem.W.fnOf x qual params body scope (.ref T) kV doc pm an cdv ct) ⟨us, ks.zip ws⟩ = seqItems? (.ref T) >>= k ∧ k (some its.toArray) = pure (ps.zip (permL ix us ws))) : KBn K fd ps n ks (permL ix) (permL ix) := by
  obtain ⟨its, r⟩ := F.kbindsD n ks (fun us _ ws => permL ix us ws) hd (fun r1 _ r3 => perm_vals r1 r3 ix) fun T kV doc pm an cdv ct us its ws l1 l2 l3 => h T kV doc pm an cdv ct us its ws l1 (l2.trans hj) l3
  exact r
theorem tO_mono {w : World} {K : PySem.W.Frag} {T : Tb} {W : Wi} {f : Ex} (σ : Sg) (H : Hp) (Q Q' : VK) (h : ∀ v H', Q v H' → Q' v H') : tO w K T W f σ H Q → tO w K T W f σ H Q' := fun ⟨G, s, I, q⟩ => ⟨G, s, I, R.holds_mono q (fun _ _ p H' G' v b J r => h v H' (p H' G' v b J r)) fun _ _ _ p => p⟩
end G

set_option Elab.async false
set_option linter.all false
set_option maxRecDepth 100000
set_option maxHeartbeats 4000000
namespace G
open PySem PySem.Spec PyProof.Rows L2
/-! ### cells that are told by nothing any more are forgotten -/
mutual
def lowD (m : Nat) : D → Bool
  | .cel n => Nat.blt n m
  | .lst xs => lowL m xs
  | .tup xs => lowL m xs
  | .dct kvs => lowE m kvs
  | _ => true
def lowL (m : Nat) : List D → Bool
  | [] => true
  | x :: xs => lowD m x && lowL m xs
def lowE (m : Nat) : List (D × D) → Bool
  | [] => true
  | (k, d) :: xs => lowD m k && (lowD m d && lowE m xs)
end
def lowF (m : Nat) : List (Nat × D) → Bool
  | [] => true
  | (_, d) :: xs => lowD m d && lowF m xs
def lowC (m : Nat) : Co → Bool
  | .L xs => lowL m xs
  | .M kvs => lowE m kvs
  | .I _ fs => lowF m fs
  | .K kvs => lowE m kvs
def lowS (m : Nat) : Slot → Bool
  | .emp => true
  | .val d => lowD m d
  | .own c => lowC m c
def cutG (m : Nat) (G : Wd) : Wd := { G with n := m }
section
variable {w : World} {K : PySem.W.Frag} {T : Tb} {σ σ' : Sg} {H H' : Hp} {G G' : Wd} {s s' : S} {m : Nat}
mutual
theorem Rep.cut : ∀ {v : V} {d : D}, Rep w K H G v d → lowD m d = true → Rep w K H (cutG m G) v d
  | _, _, .non, _ => .non
  | _, _, .bl b, _ => .bl b
  | _, _, .int i, _ => .int i
  | _, _, .str x, _ => .str x
  | _, _, .lst f s r, h => .lst f s (RepL.cut r h)
  | _, _, .tup s r, h => .tup s (RepL.cut r h)
  | _, _, .dct f s r n, h => .dct f s (RepE.cut r h) n
  | _, _, .cel (n := n) hn, h => by
    have h : Nat.blt n m = true := h
    exact Rep.cel (G := cutG m G) (n := n) (Nat.le_of_ble_eq_true h)
  | _, _, .scr h, _ => .scr h
theorem RepL.cut : ∀ {vs : List V} {ds : List D}, RepL w K H G vs ds → lowL m ds = true → RepL w K H (cutG m G) vs ds
  | _, _, .nil, _ => .nil
  | _, _, .cons r q, h => by
    simp only [lowL, Bool.and_eq_true] at h
    exact .cons (Rep.cut r h.1) (RepL.cut q h.2)
theorem RepE.cut : ∀ {es : List DictEntry} {kvs : List (D × D)}, RepE w K H G es kvs → lowE m kvs = true → RepE w K H (cutG m G) es kvs
  | _, _, .nil, _ => .nil
  | _, _, .cons a b c d e f g, h => by
    simp only [lowE, Bool.and_eq_true] at h
    exact .cons a b (Rep.cut c h.1) d e (Rep.cut f h.2.1) (RepE.cut g h.2.2)
end
theorem FR.cut : ∀ {gs : List (Str × V)} {fs : List (Nat × D)}, FR w K T H G gs fs → lowF m fs = true → FR w K T H (cutG m G) gs fs
  | _, _, .nil, _ => .nil
  | _, _, .cons a b c, h => by
    simp only [lowF, Bool.and_eq_true] at h
    exact .cons a (b.cut h.1) (FR.cut c h.2)
theorem ContR.cut {a : Addr} {c : Co} (r : ContR w K T H G a c) (h : lowC m c = true) : ContR w K T H (cutG m G) a c := by
  cases c with
  | L xs => obtain ⟨vs, h1, h2⟩ := r; exact ⟨vs, h1, h2.cut h⟩
  | M kvs => obtain ⟨es, h1, h2, h3⟩ := r; exact ⟨es, h1, h2.cut h, h3⟩
  | I c fs => obtain ⟨hc, dx, gs, h1, h2⟩ := r; exact ⟨hc, dx, gs, h1, h2.cut h⟩
  | K kvs => obtain ⟨es, h1, h2, h3⟩ := r; exact ⟨es, h1, h2.cut h, h3⟩
def cutS (m : Nat) (s : S) : S := { s with sto := s.sto.take m }
def cutOk (m : Nat) (s : S) : Bool := s.env.all (lowS m) && (s.sto.take m).all (lowC m)
theorem cut_ok (I : StR w K T σ H G s) (b : Stp σ H G s σ' H' G' s') (J : StR w K T σ' H' G' s') (h : cutOk s.sto.length s' = true) : StR w K T σ' H' (cutG s.sto.length G') (cutS s.sto.length s') ∧ Stp σ H G s σ' H' (cutG s.sto.length G') (cutS s.sto.length s') := by
  unfold cutOk at h
  rw [Bool.and_eq_true] at h
  obtain ⟨h1, h2⟩ := h
  have em : s.sto.length = G.n := I.cnt
  have le : s.sto.length ≤ s'.sto.length := by rw [em, J.cnt]; exact b.le
  have lt : ∀ n, n < s.sto.length → n < G'.n := fun n h => by rw [← J.cnt]; exact Nat.lt_of_lt_of_le h le
  have gt : ∀ (n : Nat) (c : Co), (s'.sto.take s.sto.length)[n]? = some c → n < s.sto.length ∧ s'.sto[n]? = some c := fun n c e => by
    have := (List.getElem?_eq_some_iff.mp e).1
    rw [List.length_take] at this
    refine ⟨by omega, ?_⟩
    rw [List.getElem?_take] at e
    rw [if_pos (by omega)] at e
    exact e
  refine ⟨⟨J.len, fun i d e => ?_, fun i c e => ?_, J.oin, ?_, fun n c e => ?_, fun n k hn hk => J.inj n k (lt n hn) (lt k hk), fun i c n e hn => J.sep i c n e (lt n hn), J.frs⟩,
    ⟨b.keep, b.fr, b.rh, Nat.le_of_eq em.symm, b.nf, fun a e => b.tc a ?_, fun a e => b.wc a ?_, b.dm⟩⟩
  · obtain ⟨v, k1, k2⟩ := J.val i d e
    exact ⟨v, k1, k2.cut (List.all_eq_true.mp h1 _ (List.mem_of_getElem? e))⟩
  · obtain ⟨a, k1, k2, k3⟩ := J.own i c e
    exact ⟨a, k1, k2.cut (List.all_eq_true.mp h1 _ (List.mem_of_getElem? e)), k3⟩
  · show (s'.sto.take s.sto.length).length = s.sto.length
    rw [List.length_take]; omega
  · obtain ⟨k1, k2⟩ := gt n c e
    obtain ⟨k3, k4⟩ := J.sto n c k2
    exact ⟨k3.cut (List.all_eq_true.mp h2 _ (List.mem_of_getElem? e)), k4⟩
  · rcases e with ⟨n, hn, e⟩ | e
    · exact .inl ⟨n, lt n hn, e⟩
    · exact .inr e
  · rcases e with ⟨n, hn, e, nk⟩ | e
    · refine .inl ⟨n, lt n hn, e, fun kvs z => nk kvs ?_⟩
      show (s'.sto.take s.sto.length)[n]? = _
      rw [List.getElem?_take, if_pos (show n < s.sto.length from hn)]
      exact z
    · exact .inr e
end
def lowFl (m : Nat) : Fl → Bool
  | .rt d => lowD m d
  | _ => true
def gcS (f : Sx) : Sx := fun s => match f s with
  | .ok fl s' => if lowFl s.sto.length fl && cutOk s.sto.length s' then .ok fl (cutS s.sto.length s') else .ok fl s'
  | r => r
theorem SS.gc {X : Cx} {T : Tb} {W : Wi} {st : Stmt} {f : Sx} (h : SS X T W st f) : SS X T W st (gcS f) := by
  refine PS.imp h fun E σ H ⟨G, s, I, q⟩ => ⟨G, s, I, ?_⟩
  unfold gcS at q
  cases e : f s with
  | ok fl s1 =>
    rw [e] at q
    simp only at q
    split at q
    · rename_i hc
      rw [Bool.and_eq_true] at hc
      intro σ' H' G' b J
      obtain ⟨J2, b2⟩ := cut_ok I b J hc.2
      have z := q _ _ _ b2 J2
      cases fl with
      | nx => exact z
      | bk => exact z
      | ct => exact z
      | rt d => exact fun v rv => z v (rv.cut hc.1)
    · exact q
  | exc c d s1 => rw [e] at q; exact q
  | bad => rw [e] at q; exact q
end G

set_option Elab.async false
set_option linter.all false
set_option maxRecDepth 100000
set_option maxHeartbeats 4000000
/-! ### enumerate over a tuple -/
namespace PySem
open Sem (wp)
theorem gEnNew {v : Value} {ob : Obj} {Ok : Heap → Prop} (B : Begins v ob Ok) :
    Meets (Builtin.«enumerate.__new__» ⟨[.type "enumerate", v], []⟩) (fun _ Z s => Ok s.heap ∧
      Z (.ok (.ret (.ref (s.heap.push ob).objs.size))) { s with heap := (s.heap.push ob).push { cls := .type "enumerate", data := .fields #[.none, .bool false, .ref s.heap.objs.size, rawInt 0, .none, .none] } }) :=
  .of_wp fun pg w A Z s hyp => by
    obtain ⟨hp, gl, ds, tk, os⟩ := s
    obtain ⟨ok, hyp⟩ := hyp
    have hsub := sub_enumerate
    have it1 : ∀ {A2 : Around} {E2 : Value → Shared → Prop} {Q2 : Value → Shared → Prop}, Q2 (.ref hp.objs.size) ⟨hp.push ob, gl, ds, tk, os⟩ → wpAny (model pg w) A2 (pyIter v) Q2 E2 ⟨hp, gl, ds, tk, os⟩ :=
      fun k => B.iter pg w _ _ ⟨hp, gl, ds, tk, os⟩ _ ok k
    wp_walk using it1
    refine wpAny_stack_any fun stk => wpAny_pure ?_
    split
    · rename_i c _ _ _ _ _
      cases (c == Value.type "enumerate")
      · wp_walk using it1
        exact ⟨_, rfl, hyp⟩
      · wp_walk using it1
        exact ⟨_, rfl, hyp⟩
    · wp_walk using it1
      exact ⟨_, rfl, hyp⟩
theorem gEnCall {prog : Program} {w : World} {A : Around} {E : Value → Shared → Prop} {s : Shared} {v : Value} {ob : Obj} {Ok : Heap → Prop} {Q : Value → Shared → Prop} (B : Begins v ob Ok) (ok : Ok s.heap)
    (k : ∀ h', IsEnum h' (s.heap.objs.size + 1) s.heap.objs.size 0 .none → h'.get? s.heap.objs.size = some ob → h'.objs.size = s.heap.objs.size + 2 →
      (∀ c x, s.heap.get? c = some x → h'.get? c = some x) → Q (.ref (s.heap.objs.size + 1)) { s with heap := h' }) :
    wpAny (model prog w) A (call (.type "enumerate") [v]) Q E s := by
  refine callType_new F.called_enumerate (by decide) (F.typeCall_enumerate_1 _) (F.newCall_enumerate_1 _) (fun obj => F.args_object_init_2 obj _) F.entry_enumerate_new (gEnNew B) ⟨ok, ?_⟩
  have sz : (s.heap.push ob).objs.size = s.heap.objs.size + 1 := Heap.size_push ..
  show _ ∧ _
  rw [sz]
  have en : IsEnum ((s.heap.push ob).push { cls := .type "enumerate", data := .fields #[.none, .bool false, .ref s.heap.objs.size, rawInt 0, .none, .none] }) (s.heap.objs.size + 1) s.heap.objs.size 0 .none := by
    have z := Heap.get?_push_size (s.heap.push ob) (o := { cls := .type "enumerate", data := .fields #[.none, .bool false, .ref s.heap.objs.size, rawInt 0, .none, .none] }) rfl
    rw [sz] at z
    exact z
  exact ⟨⟨_, en, rfl⟩, k _ en (Heap.get?_push_of_some _ (Heap.get?_push_size _ B.free)) (by rw [Heap.size_push, sz]) fun c x e => Heap.get?_push_of_some _ (Heap.get?_push_of_some _ e)⟩
end PySem
namespace L2
open PySem PySem.Spec PyProof.Rows
def Iet (K : PySem.W.Frag) (a : Addr) : It :=
  ⟨fun i H => ∃ (xs : List V) (x : V), SqT K H a xs ∧ xs[i]? = some x, fun i H v H' => ∃ T x, v = .ref T ∧ H T = none ∧ H' = upd H T (.tup [.int (i : Nat), x]) ∧ ∀ xs, SqT K H a xs → xs[i]? = some x, fun i H => ∃ xs : List V, SqT K H a xs ∧ xs.length ≤ i⟩
theorem turn_enumT {P : Program} {w : World} {K : PySem.W.Frag} {elts : List Expr} {kk : Nat} {tpos : Pos} (a e it : Addr) :
    Turn P w K (.Tuple elts kk tpos) (Iet K a) [e, it] e (fun i h => (∃ old, IsEnum h e it ((i : Nat) : Int) old) ∧ h.IsTupleIter it a i ∧ e ≠ it) where
  mem := by simp
  obj := fun i h st b hb => by
    obtain ⟨⟨old, he⟩, ⟨o, ho, _, hd⟩, _⟩ := st
    rcases List.mem_cons.mp hb with z | z
    · rw [z]; exact ⟨_, he, fun v q => nomatch q⟩
    · rw [List.mem_singleton.mp z]; exact ⟨o, ho, fun v q => by rw [hd] at q; cases q⟩
  keep := fun i h h' st k => by
    obtain ⟨⟨old, he⟩, hi, ne⟩ := st
    exact ⟨⟨old, k e (by simp) _ he⟩, hi.at fun o q => k it (by simp) o q, ne⟩
  item := by
    intro X hP hw hK hc i pins s σ H E I hf st hg
    subst hP hw hK
    obtain ⟨⟨old, he⟩, hit, ne⟩ := st
    obtain ⟨xs, x, hq, hx⟩ := hg
    obtain ⟨its, rv, p, hz⟩ := I.tuple hq
    have p : s.heap.IsTuple a its.toArray := p
    obtain ⟨u, hu, ru⟩ := rv.get hx
    have hel : e < s.heap.objs.size := Heap.lt_size he
    have hil : it < s.heap.objs.size := by obtain ⟨_, q, _⟩ := hit; exact Heap.lt_size q
    have ni : a ≠ it := fun z => by
      obtain ⟨o, q1, q2, _⟩ := p
      obtain ⟨o2, q3, q4, _⟩ := hit
      rw [z, q3] at q1
      cases q1
      rw [q4] at q2
      exact absurd (Value.type.inj q2) (by decide)
    have nea : e ≠ a := fun z => by
      obtain ⟨o, q1, q2, _⟩ := p
      have he : s.heap.get? e = some _ := he
      rw [z, q1] at he
      cases he
      exact absurd (Value.type.inj q2) (by decide)
    have D := Draws.tuple (prog := X.prog) (w := X.w) (A := X.A.in1) (I.ok.hd hc) it a ni its.toArray
    have hlt : i < its.length := by rw [← rv.length]; exact (List.getElem?_eq_some_iff.mp hx).1
    refine wpAny_pyNext_enum_itemD D he ⟨hit, p⟩ (by simpa using hlt) ne (by simp [ne, nea]) fun y h' tk hP ho hs' hT hsz hk => ?_
    obtain rfl : y = u := by
      have hP : its.toArray[i]? = some y := hP
      have hu : its[i]? = some u := hu
      simp at hP
      rw [hu] at hP
      exact (Option.some.inj hP).symm
    refine ⟨_, rfl, wpAny_letOwnedTupleGo_enum (s := { s with heap := h', toks := tk + 1 }) ho fun h'' he' sb => ?_⟩
    have hT2 : h''.get? s.heap.objs.size = some { cls := .type "tuple", data := .seq #[.int i tk, y] } := (sb.2 _ (Nat.ne_of_gt hel)).trans hT
    have new : ObjOk X.prog X.w (upd H s.heap.objs.size (.tup [.int (i : Nat), x])) h'' s.heap.objs.size (.tup [.int (i : Nat), x]) :=
      ⟨by show 2 ≤ sizeLine; decide, [.int i tk, y], .cons ⟨_, rfl⟩ (.cons ru .nil), ⟨_, hT2, rfl, _, rfl⟩⟩
    have I1 : Inv X pins σ (upd H s.heap.objs.size (.tup [.int (i : Nat), x])) { s with heap := h'', toks := tk + 1 } :=
      I.turnedNew (ch := [e, it]) (fun b ob hb q => (sb.2 b (fun z => hb (by simp [z]))).trans (hk b ob (fun z => hb (by simp [z])) (fun z => hb (by simp [z])) q)) hf (Nat.le_refl _) new
    refine ⟨.ref s.heap.objs.size, _, I1, rfl, ⟨_, x, rfl, I.hok.fresh (Nat.le_refl _), rfl, fun ys hy => by rw [I.tuple_inj hy hq]; exact hx⟩, ⟨⟨y, ?_⟩, hs'.1.at fun o q => (sb.2 it (Ne.symm ne)).trans q, ne⟩, fun b hb => ?_⟩
    · have e1 : ((i + 1 : Nat) : Int) = (i : Int) + 1 := by omega
      rw [e1]
      exact he'
    · have hb' : b < s.heap.objs.size := by
        rcases List.mem_cons.mp hb with z | z
        · rw [z]; exact hel
        · rw [List.mem_singleton.mp z]; exact hil
      rw [upd_ne (Nat.ne_of_lt hb')]
      exact (hf b hb).1
  done := by
    intro X hP hw hK hc i pins s σ H E I hf st hg
    subst hP hw hK
    obtain ⟨⟨old, he⟩, hit, ne⟩ := st
    obtain ⟨xs, hq, hx⟩ := hg
    obtain ⟨its, rv, p, hz⟩ := I.tuple hq
    have p : s.heap.IsTuple a its.toArray := p
    obtain ⟨f0, f1, f2, f3, f4, f5⟩ := hf it (by simp)
    have hl := rv.length
    have hT : s.TypeIs (.ref e) "enumerate" := ⟨_, he, rfl⟩
    unfold pyNext
    refine wpAny_bind (wpAny_attempt (wpAny_callSpecial?_slot (name := Str.ofString "__next__") hT F.slot_enumerate_next
      (wpAny_call_entry F.slot_enumerate_next hT F.entry_enumerate_next ?_ (F.args_enumerate_next_1 _))))
    show wpAny _ _ (field (.ref e) 2 >>= _) _ _ _
    refine wpAny_bind (wpAny_field he rfl (x := .ref it) rfl ?_)
    refine wpAny_bind (wpAny_nextOf_tuple_end (I.ok.hd hc) hit p (by simp; omega) fun h' x he' hx' => ?_)
    obtain ⟨o, ho, hcl⟩ := hx'
    refine wpAny_bind (wpAny_isInstance (T := "StopIteration") (b := true) ⟨o, ho, hcl⟩ isSubtype_stop ?_)
    exact wpAny_pure ⟨rfl, I.turned (t' := s.toks) (fun b o hb q => he' b o hb q) f0 f1 f3 f4 f5⟩
  self := fun A i s Q E st h => let ⟨⟨_, he⟩, _⟩ := st; wpAny_pyIter_enum he h
def iEnumT (K : PySem.W.Frag) (ta : TA) : TI := fun σ H Z => ta σ H fun vs H1 => ∃ a xs, vs = [.ref a] ∧ ((SqL K H1 a xs ∧ Z (Ite K a) H1) ∨ (SqT K H1 a xs ∧ Z (Iet K a) H1))
theorem pi_enumT {X : Cx} {e : Expr} {ta : TA} {p pos tpos : Pos} {elts : List Expr} {kk : Nat} (hg : Gl X "enumerate") (hm : X.mg "enumerate" = none) (ha : PA X [e] ta) (hs : starEach [e] X.env = [(false, eval e X.env)] := by rfl) :
    PI X (.Tuple elts kk tpos) (.Call (.Name "enumerate" p) [e] [] pos) (iEnumT X.K ta) := by
  refine ⟨fun pins s σ H Z I h => ?_⟩
  refine Call_ (ld_blt I hg hm boot_enumerate (PyProof.Rows.callWith_type1 (thn (ha.run pos pins s σ H _ I h) fun us s1 ⟨vs, H1, I1, r1, q1⟩ => ?_) hs rfl))
  obtain ⟨a, xs, rfl, q⟩ := q1
  cases r1 with
  | cons r rr =>
    cases rr
    cases r
    have fp : ∀ b ∈ [s1.heap.objs.size + 1, s1.heap.objs.size], FpOk X pins H1 b := fun b hb => by
      have hle : s1.heap.objs.size ≤ b := by
        rcases List.mem_cons.mp hb with z | z
        · rw [z]; exact Nat.le_add_right _ _
        · rw [List.mem_singleton.mp z]; exact Nat.le_refl _
      exact I1.fpOk hle (I1.hok.fresh hle)
    rcases q with ⟨hq, q⟩ | ⟨hq, q⟩
    · obtain ⟨its, rv, p', hz⟩ := I1.list hq
      refine gEnCall (begins_list a its.toArray) p'.isList fun h' he hit hsz hk => wpAny_pyIter_enum he ?_
      exact ⟨_, _, _, _, H1, rfl, I1.kept (t' := s1.toks) hk, turn_enum a (s1.heap.objs.size + 1) s1.heap.objs.size, ⟨⟨.none, he⟩, ⟨_, hit, rfl, rfl⟩, Nat.succ_ne_self _⟩, fp, q⟩
    · obtain ⟨its, rv, p', hz⟩ := I1.tuple hq
      refine gEnCall (begins_tuple a its.toArray) p' fun h' he hit hsz hk => wpAny_pyIter_enum he ?_
      exact ⟨_, _, _, _, H1, rfl, I1.kept (t' := s1.toks) hk, turn_enumT a (s1.heap.objs.size + 1) s1.heap.objs.size, ⟨⟨.none, he⟩, ⟨_, hit, rfl, rfl⟩, Nat.succ_ne_self _⟩, fp, q⟩
end L2
namespace G
open PySem PySem.Spec PyProof.Rows L2
def enumTI (f : Ex) : Ix := fun s => (f s).bind fun d s => match d with
  | .lst xs => .ok (enumN xs) s
  | .tup xs => .ok (enumN xs) s
  | _ => .bad
section
variable {X : Cx} {T : Tb} {W : Wi} {p pos : Pos}
theorem si_enumT {e : Expr} {f : Ex} {tpos : Pos} {elts : List Expr} {kk : Nat} (hg : Gl X "enumerate") (hm : X.mg "enumerate" = none) (h : SV X T W e f) (h1 : starEach [e] X.env = (false, eval e X.env) :: starEach [] X.env := by rfl) (hs : starEach [e] X.env = [(false, eval e X.env)] := by rfl) :
    SI X T W (.Tuple elts kk tpos) (.Call (.Name "enumerate" p) [e] [] pos) (enumTI f) := by
  refine PI.imp (pi_enumT hg hm (pa_cons h pa_nil h1) hs) fun σ H Q ⟨G, s, I, q⟩ => ?_
  refine tV_bind I q fun d s1 H1 G1 v b J r q => ?_
  cases d with
  | lst xs =>
    cases r with
    | @lst a vs _ hF ha rr =>
      refine ⟨a, vs, rfl, .inl ⟨.inl (.inl ha), q _ _ _ b J ?_⟩⟩
      intro i σ1 H2 G2 s2 b2 J2
      have h2 : H2 a = some (.lst vs) := (J.kp b2).ho a hF _ ha
      have z := (rr.kp (J.kp b2)).at' i
      unfold enumN
      cases e1 : xs[i]? with
      | none => rw [e1] at z; exact ⟨vs, .inl (.inl h2), z⟩
      | some d =>
        rw [e1] at z
        obtain ⟨w, hw, rw_⟩ := z
        refine ⟨⟨vs, w, .inl (.inl h2), hw⟩, fun x H3 ⟨p, y, e3, e4, e5, e6⟩ => ?_⟩
        subst e3 e5
        have e7 := e6 vs (.inl (.inl h2))
        rw [hw] at e7
        cases e7
        have k := J2.kp (Stp.fresh (o := HO.tup [V.int (i : Nat), w]) e4)
        exact ⟨_, Stp.fresh e4, J2.fresh e4, .tup (.inl (.inl upd_same)) (.cons (.int _) (.cons (rw_.kp k) .nil))⟩
  | tup xs =>
    cases r with
    | @tup a vs _ hsq rr =>
      refine ⟨a, vs, rfl, .inr ⟨hsq, q _ _ _ b J ?_⟩⟩
      intro i σ1 H2 G2 s2 b2 J2
      have r2 : Rep X.w X.K H2 G2 (.ref a) (.tup xs) := (Rep.tup hsq rr).kp (J.kp b2)
      cases r2 with
      | @tup _ vs2 _ h2 rr2 =>
      have z := rr2.at' i
      unfold enumN
      cases e1 : xs[i]? with
      | none => rw [e1] at z; exact ⟨vs2, h2, z⟩
      | some d =>
        rw [e1] at z
        obtain ⟨w, hw, rw_⟩ := z
        refine ⟨⟨vs2, w, h2, hw⟩, fun x H3 ⟨p, y, e3, e4, e5, e6⟩ => ?_⟩
        subst e3 e5
        have e7 := e6 vs2 h2
        rw [hw] at e7
        cases e7
        have k := J2.kp (Stp.fresh (o := HO.tup [V.int (i : Nat), w]) e4)
        exact ⟨_, Stp.fresh e4, J2.fresh e4, .tup (.inl (.inl upd_same)) (.cons (.int _) (.cons (rw_.kp k) .nil))⟩
  | _ => exact q.elim
end
end G

set_option Elab.async false
set_option linter.all false
set_option maxRecDepth 100000
set_option maxHeartbeats 4000000
namespace G
open PySem PySem.Spec PyProof.Rows L2
/-! ### xs == [], xs != [] whatever xs holds -/
section
variable {prog : Program} {w : World} {A : Around} {E : Value → Shared → Prop} {t : Shared}
theorem eq_bare {l b : Addr} {xs : List Value} {Q : Value → Shared → Prop} (hl : t.heap.IsList l xs.toArray) (hb : t.heap.IsList b #[]) (hu : A.units < cLine) (h : Q (.bool xs.isEmpty) t) : wpAny (model prog w) A (compareOp .Eq (.ref l) (.ref b)) Q E t := by
  cases xs with
  | nil => exact SeqAt.eq_listAt (e := fun _ => true) hl hb rfl hu (fun j h1 => absurd h1 (Nat.not_lt_zero j)) h
  | cons x r => exact SeqAt.eq_list_lengthsAt hl hb (by simp) hu h
theorem ne_bare {l b : Addr} {xs : List Value} {Q : Value → Shared → Prop} (hl : t.heap.IsList l xs.toArray) (hb : t.heap.IsList b #[]) (hu : A.units < cLine) (h : Q (.bool (!xs.isEmpty)) t) : wpAny (model prog w) A (compareOp .NotEq (.ref l) (.ref b)) Q E t := by
  obtain ⟨⟨c1, q1, d1, z1⟩, ho, hc, n, hd⟩ := id hl
  obtain ⟨⟨c2, q2, d2, z2⟩, ho2, hc2, n2, hd2⟩ := id hb
  simp only at hc hd hc2 hd2
  subst hc hd hc2 hd2
  cases xs with
  | nil => exact richCompare_meets_room (op := .NotEq) ⟨_, ho, rfl⟩ ⟨_, ho2, rfl⟩ PySem.F.slot_list_ne PySem.F.entry_list_ne (PySem.F.args_list_ne_2 _ _) (SeqAt.list_neAt l b _ _ n n2 q1 q2 z1 z2 rfl fun _ => true) ⟨ho, ho2, fun j h1 => absurd h1 (Nat.not_lt_zero j), (fun z => nomatch z), h⟩ hu
  | cons x r => exact richCompare_meets_room (op := .NotEq) ⟨_, ho, rfl⟩ ⟨_, ho2, rfl⟩ PySem.F.slot_list_ne PySem.F.entry_list_ne (PySem.F.args_list_ne_2 _ _) (SeqAt.list_ne_lengthsAt l b _ _ n n2 q1 q2 z1 z2 (by simp)) ⟨ho, ho2, (fun z => nomatch z), h⟩ hu
end
def emL (s : S) (d e : D) : Option Bool := match content s d, content s e with
  | some (.L xs), some (.L []) => some xs.isEmpty
  | _, _ => none
def eqLD : D → D → Ex := fun d e s => match emL s d e with
  | some b => .ok (.bl b) s
  | none => eqD d e s
def neLD : D → D → Ex := fun d e s => match emL s d e with
  | some b => .ok (.bl (!b)) s
  | none => neD d e s
theorem truths_eqL : Truths eqLD := by
  intro d e s x s' h
  unfold eqLD at h
  split at h
  · cases h; exact ⟨_, rfl⟩
  · exact truths_eq d e s x s' h
theorem truths_neL : Truths neLD := by
  intro d e s x s' h
  unfold neLD at h
  split at h
  · cases h; exact ⟨_, rfl⟩
  · exact truths_ne d e s x s' h
section
variable {X : Cx} {T : Tb} {W : Wi}
theorem emL_at {pins : List (Addr × Obj)} {st : Shared} {σ : Sg} {H : Hp} {G : Wd} {s : S} {x y : V} {v u : Value} {d e : D} {b : Bool} (I : Inv X pins σ H st) (rx : RelV x v) (ry : RelV y u) (J : StR X.w X.K T σ H G s) (r1 : RepT X.w X.K σ H G s x d) (r2 : RepT X.w X.K σ H G s y e) (h : emL s d e = some b) :
    ∃ p q xs, v = .ref p ∧ u = .ref q ∧ st.heap.IsList p (List.toArray xs) ∧ st.heap.IsList q #[] ∧ b = xs.isEmpty := by
  unfold emL at h
  split at h
  · rename_i ks h1 h2
    cases h
    obtain ⟨p, vs, rfl, k1, k2⟩ := content_L J r1 h1
    obtain ⟨q, us, rfl, k3, k4⟩ := content_L J r2 h2
    obtain rfl : v = Value.ref p := rx
    obtain rfl : u = Value.ref q := ry
    cases k4
    obtain ⟨i1, z1, p1, _⟩ := I.list (Or.inl (.inl k1))
    obtain ⟨i2, z2, p2, _⟩ := I.list (Or.inl (.inl k3))
    cases z2
    refine ⟨p, q, i1, rfl, rfl, p1.isList, p2.isList, ?_⟩
    have l1 := k2.length
    have l2 := z1.length
    cases ks with
    | nil =>
      have : i1 = [] := List.eq_nil_of_length_eq_zero (by rw [← l2, l1]; rfl)
      rw [this]; rfl
    | cons a r =>
      cases i1 with
      | nil => rw [l1] at l2; simp at l2
      | cons a' r' => rfl
  · cases h
theorem b2_eqL (hu : X.A.units + 64 < cLine) : B2 X T W (compareOp .Eq) eqLD := by
  intro pins st σ H x y v u G s d e Q I rx ry J r1 r2 q
  unfold eqLD at q
  cases h : emL s d e with
  | none => rw [h] at q; exact b2_eq hu pins st σ H x y v u G s d e Q I rx ry J r1 r2 q
  | some b =>
    rw [h] at q
    obtain ⟨p, p2, es, rfl, rfl, z1, z2, z5⟩ := emL_at I rx ry J r1 r2 h
    exact eq_bare z1 z2 (by omega) ⟨.bl b, H, I, by rw [z5]; rfl, q _ _ _ Stp.refl J (.bl b)⟩
theorem b2_neL (hu : X.A.units + 64 < cLine) : B2 X T W (compareOp .NotEq) neLD := by
  intro pins st σ H x y v u G s d e Q I rx ry J r1 r2 q
  unfold neLD at q
  cases h : emL s d e with
  | none => rw [h] at q; exact b2_ne hu pins st σ H x y v u G s d e Q I rx ry J r1 r2 q
  | some b =>
    rw [h] at q
    obtain ⟨p, p2, es, rfl, rfl, z1, z2, z5⟩ := emL_at I rx ry J r1 r2 h
    exact ne_bare z1 z2 (by omega) ⟨.bl (!b), H, I, by rw [z5]; rfl, q _ _ _ Stp.refl J (.bl _)⟩
/-! ### xs + ys, xs[a:b] as new lists -/
def tLAdd (ta tb : TE) : TE := fun σ H Q => ta σ H fun x H1 => tb σ H1 fun y H2 => ∃ p q xs ys, x = .ref p ∧ y = .ref q ∧ H2 p = some (.lst xs) ∧ H2 q = some (.lst ys) ∧ xs.length + ys.length ≤ sizeLine ∧ ∀ l, H2 l = none → Q (.ref l) (upd H2 l (.lst (xs ++ ys)))
variable {a b e : Expr} {ta tb : TE} {fa fb f : Ex} {pos : Pos}
theorem pe_ladd (ha : PE X a ta) (hb : PE X b tb) : PE X (.BinOp a .Add b pos) (tLAdd ta tb) := by
  refine ⟨fun pins st σ H Q I h => wpAny_BinOp (bin ha hb I h fun v u st2 x y H2 I2 rx ry q => ?_)⟩
  obtain ⟨p, q', xs, ys, rfl, rfl, k1, k2, hs, q⟩ := q
  obtain rfl : v = Value.ref p := rx
  obtain rfl : u = Value.ref q' := ry
  obtain ⟨i1, z1, p1, _⟩ := I2.list (Or.inl (.inl k1))
  obtain ⟨i2, z2, p2, _⟩ := I2.list (Or.inl (.inl k2))
  obtain ⟨⟨c1, q1, d1, y1⟩, ho, hc, n, hd⟩ := p1.isList
  obtain ⟨⟨c2, q2, d2, y2⟩, ho2, hc2, n2, hd2⟩ := p2.isList
  simp only at hc hd hc2 hd2
  subst hc hd hc2 hd2
  have sz : i1.toArray.size + i2.toArray.size ≤ sizeLine := by
    rw [List.size_toArray, List.size_toArray, ← z1.length, ← z2.length]
    exact hs
  refine concat_meets ⟨_, ho, rfl⟩ ⟨_, ho2, rfl⟩ noFill_list_add seq_list_add PySem.F.slot_list_add PySem.F.entry_list_add (PySem.F.args_list_add_2 _ _) (list_addW p q' i1.toArray i2.toArray n n2 q1 q2 y1 y2 sz) ⟨ho, ho2, ?_⟩
  have fr : H2 st2.heap.objs.size = none := I2.hok.fresh (Nat.le_refl _)
  have e1 : i1.toArray ++ i2.toArray = (i1 ++ i2).toArray := by simp
  rw [e1]
  refine ⟨.ref st2.heap.objs.size, upd H2 st2.heap.objs.size (.lst (xs ++ ys)), I2.laid (t' := st2.toks) (fun b u e => Heap.get?_push_of_some _ e) (Nat.le_refl _) ?_, rfl, q _ fr⟩
  refine ⟨by rw [List.length_append]; exact hs, i1 ++ i2, 0, ?_, Heap.get?_push_size _ rfl⟩
  exact z1.append z2
theorem sf_add (ha : SO X T W a fa) (hb : SO X T W b fb) : SF X T W (.BinOp a .Add b pos) (addF fa fb) := by
  refine PE.imp (pe_ladd ha hb) fun σ H Q ⟨G, s, I, q⟩ => ?_
  refine tO_bind I q fun d s1 H1 G1 v b1 J1 r1 q => ?_
  refine tO_bind J1 (hF b1 q) fun e s2 H2 G2 u b2 J2 r2 q => ?_
  have r1 := r1.step J1 b2 J2
  split at q
  · rename_i xs ys c1 c2
    split at q
    · rename_i hs
      obtain ⟨p, vs, rfl, k1, k2⟩ := content_L J2 r1 c1
      obtain ⟨p2, us, rfl, k3, k4⟩ := content_L J2 r2 c2
      refine ⟨p, p2, vs, us, rfl, rfl, k1, k3, by rw [k2.length, k4.length, line_eq]; exact hs, fun l hl => ?_⟩
      exact pf_new (c := .L (xs ++ ys)) J1 b2 J2 hl (fun k => ⟨_, upd_same, (k2.append k4).kp k⟩) q
    · exact q.elim
  · exact q.elim
def sliceF (f : Ex) (flo fhi : Px) : Fx := fun s => (f s).bind fun d s => (flo s).bind fun lo s => (fhi s).bind fun hi s => match content s d with
  | some (.L xs) => .ok (.L (cutN xs lo hi)) s
  | _ => .bad
theorem sf_slice {lo hi : Option Expr} {flo fhi : Px} {p2 : Pos} (he : SO X T W e f) (hl : SP X T W lo flo) (hh : SP X T W hi fhi) : SF X T W (.Subscript e (.Slice lo hi none p2) pos) (sliceF f flo fhi) := by
  refine PE.imp (pe_slice sl_list he hl hh) fun σ H Q ⟨G, s, I, q⟩ => ?_
  refine tO_bind I q fun d s1 H1 G1 x b1 J1 r1 q => ?_
  refine ⟨G1, s1, J1, ?_⟩
  have q := hF b1 q
  cases e1 : flo s1 with
  | exc c d s => rw [e1] at q; exact q
  | bad => rw [e1] at q; exact q
  | ok lo s2 =>
    rw [e1] at q
    intro H2 G2 b2 J2
    refine ⟨G2, s2, J2, ?_⟩
    have q : ((fhi s2).bind fun hi s => match content s d with
      | some (.L xs) => R.ok (Co.L (cutN xs lo hi)) s
      | _ => .bad).holds (PF X.w X.K T Q σ H2 G2 s2) (PX X.w X.K T W σ H2 G2 s2) := hF b2 q
    cases e2 : fhi s2 with
    | exc c d s => rw [e2] at q; exact q
    | bad => rw [e2] at q; exact q
    | ok hi s3 =>
      rw [e2] at q
      intro H3 G3 b3 J3
      have r3 := (r1.step J1 b2 J2).step J2 b3 J3
      have q : (match content s3 d with
        | some (.L xs) => R.ok (Co.L (cutN xs lo hi)) s3
        | _ => .bad).holds (PF X.w X.K T Q σ H2 G2 s2) (PX X.w X.K T W σ H2 G2 s2) := q
      split at q
      · rename_i xs hc
        obtain ⟨p, vs, rfl, k1, k2⟩ := content_L J3 r3 hc
        exact ⟨p, vs, rfl, .inl (.inl k1), fun l hl => pf_new (c := .L (cutN xs lo hi)) J2 b3 J3 hl (fun k => ⟨_, upd_same, (cutN_V k2 lo hi).kp k⟩) q⟩
      · exact q.elim
end
end G

set_option Elab.async false
set_option linter.all false
set_option maxRecDepth 100000
set_option maxHeartbeats 4000000
namespace G
open PySem PySem.Spec PyProof.Rows L2
/-! ### name = {k: v for ..} on one line -/
section
variable {X : Cx} {T : Tb} {pos : Pos}
theorem ps_setDc {us : List Nat} {i : Nat} {y : Str} {py : Pos} {kx vx tg iter : Expr} {ifs : List Expr} {scope : Scope} {own : List (Str × Nat)} {spos : Pos} {src : Ix} {g : Gx} {ft : Tx} {fk fv : Ex} (hu : X.A.units + 9 < cLine) (hc : X.calm = true) (hN : X.N.Nodup) (hy : X.N[i]? = some y) (hyl : X.env.scope.names.lookup y = some .local)
    (hsw : swapsWith (.DictComp kx vx [⟨tg, iter, ifs, 0⟩] scope pos) (some (.Name y py)) spos.line X.env = pure true) (hi : SI X T W0 tg iter src) (ok : BlkOk X.N X.env.scope scope own) (hvs : ∀ i ∈ us, i ∈ own.map (·.2))
    (hg : ∀ (t : Shared) (H : Hp) (C : Addr) (cl : List (Str × Addr)) (fp : List Addr), SG (X.blk t H scope (compEnvC scope cl C X.env) fp) T us tg g) (ht : ∀ (t : Shared) (H : Hp) (C : Addr) (cl : List (Str × Addr)) (fp : List Addr), STs (X.blk t H scope (compEnvC scope cl C X.env) fp) T W0 ifs ft)
    (hk : ∀ (t : Shared) (H : Hp) (C : Addr) (cl : List (Str × Addr)) (fp : List Addr), SV (X.blk t H scope (compEnvC scope cl C X.env) fp) T W0 kx fk) (hv : ∀ (t : Shared) (H : Hp) (C : Addr) (cl : List (Str × Addr)) (fp : List Addr), SV (X.blk t H scope (compEnvC scope cl C X.env) fp) T W0 vx fv)
    (hs : ∀ x, foldedSetIterable iter X.env x = pure x) :
    PS X (.Assign [.Name y py] (.DictComp kx vx [⟨tg, iter, ifs, 0⟩] scope pos) spos) (tAsg (tF X.w X.K T W0 (dcF src (own.map (·.2)) g ft fk fv)) (gName i)) := by
  refine ⟨fun pins st σ H D I h => ?_⟩
  rw [exec_Assign_Name_used _ _ _ _ hsw]
  refine wpAny_bind (wpAny_standAt (wpAny_bind ?_))
  show wpAny _ X.A (do let _ ← comprehension (.DictComp kx vx [⟨tg, iter, ifs, 0⟩] scope pos) scope X.env (firstIterPos [⟨tg, iter, ifs, 0⟩] pos) newDict false (eval iter X.env) (some (assign (.Name y py) X.env))) _ _ st
  have h : tF X.w X.K T W0 (dcF src (own.map (·.2)) g ft fk fv) σ H (fun x H1 => gName i x σ H1 D.nx) := h
  refine wpAny_bind (thn (dcG_core (g := tG X.w X.K T us g) (tt := tB X.w X.K T W0 ft) (tk := tV X.w X.K T W0 fk) (tv := tV X.w X.K T W0 fv) (Qf := fun _ t' => L2.SP X pins D .next t') (ptD_ok hu) hc hN I hi ok hg ht hk hv hs (dc_imp hvs h) fun P C t m H' I' q hn f => ?_) fun _ t' hq => wpAny_pure (wpAny_pure hq))
  show wpAny _ _ (assign (.Name y py) X.env (.ref P)) _ _ _
  refine wpAny_assign_Name (store_ok2 (v := V.ref P) I' hN hy (.inl hyl) rfl (fun t2 I2 ⟨c, sb, hcl⟩ => ?_) (.inr hyl))
  obtain ⟨f0, f1, f2, f3, f4, f5⟩ := f
  have ne : C ≠ c := by
    rcases hcl with z | z
    · rw [z]; exact f1
    · exact fun e => f4 y c z e.symm
  refine ⟨m, hn.sameBut sb ne, fun h3 sb3 => ?_⟩
  exact ⟨_, H', I2.turned (t' := t2.toks) (fun b o hb e => (sb3.2 b hb).trans e) f0 f1 f3 f4 f5, q⟩
theorem ss_ownDc {us : List Nat} {i : Nat} {y : Str} {py : Pos} {kx vx tg iter : Expr} {ifs : List Expr} {scope : Scope} {own : List (Str × Nat)} {spos : Pos} {src : Ix} {g : Gx} {ft : Tx} {fk fv : Ex} (hu : X.A.units + 9 < cLine) (hc : X.calm = true) (hN : X.N.Nodup) (hy : X.N[i]? = some y) (hyl : X.env.scope.names.lookup y = some .local)
    (hsw : swapsWith (.DictComp kx vx [⟨tg, iter, ifs, 0⟩] scope pos) (some (.Name y py)) spos.line X.env = pure true) (hi : SI X T W0 tg iter src) (ok : BlkOk X.N X.env.scope scope own) (hvs : ∀ i ∈ us, i ∈ own.map (·.2))
    (hg : ∀ (t : Shared) (H : Hp) (C : Addr) (cl : List (Str × Addr)) (fp : List Addr), SG (X.blk t H scope (compEnvC scope cl C X.env) fp) T us tg g) (ht : ∀ (t : Shared) (H : Hp) (C : Addr) (cl : List (Str × Addr)) (fp : List Addr), STs (X.blk t H scope (compEnvC scope cl C X.env) fp) T W0 ifs ft)
    (hk : ∀ (t : Shared) (H : Hp) (C : Addr) (cl : List (Str × Addr)) (fp : List Addr), SV (X.blk t H scope (compEnvC scope cl C X.env) fp) T W0 kx fk) (hv : ∀ (t : Shared) (H : Hp) (C : Addr) (cl : List (Str × Addr)) (fp : List Addr), SV (X.blk t H scope (compEnvC scope cl C X.env) fp) T W0 vx fv)
    (hs : ∀ x, foldedSetIterable iter X.env x = pure x := by intro _; rfl) :
    SS X T W0 (.Assign [.Name y py] (.DictComp kx vx [⟨tg, iter, ifs, 0⟩] scope pos) spos) (ownS i (dcF src (own.map (·.2)) g ft fk fv)) :=
  ss_own_of (ps_setDc hu hc hN hy hyl hsw hi ok hvs hg ht hk hv hs)
end
end G

set_option Elab.async false
set_option linter.all false
set_option maxRecDepth 100000
set_option maxHeartbeats 4000000
namespace G
open PySem PySem.Spec PyProof.Rows L2
/-! ### repr of tuples and dicts of dicts -/
mutual
inductive Dk (K : PySem.W.Frag) (H : Hp) : V → PyData → Prop
  | non : Dk K H .non .none
  | bl (b : Bool) : Dk K H (.bl b) (.bool b)
  | int (i : Int) : Dk K H (.int i) (.int i)
  | str (x : Str) : Dk K H (.str x) (.str x)
  | tup {a : Addr} {xs : List V} {ds : List PyData} : SqT K H a xs → DkL K H xs ds → Dk K H (.ref a) (.tuple ds)
  | dct {a : Addr} {q : DE} {us ws : List V} {kvs : List (PyData × PyData)} : H a = some (dictHO a q) → Vals us (q.l.map (·.key)) → Vals ws (q.l.map (·.val)) → DkL K H us (kvs.map (·.1)) → DkL K H ws (kvs.map (·.2)) → Dk K H (.ref a) (.dict kvs)
inductive DkL (K : PySem.W.Frag) (H : Hp) : List V → List PyData → Prop
  | nil : DkL K H [] []
  | cons {v : V} {vs : List V} {d : PyData} {ds : List PyData} : Dk K H v d → DkL K H vs ds → DkL K H (v :: vs) (d :: ds)
end
section
variable {X : Cx} {pins : List (Addr × Obj)} {σ : Sg} {H : Hp} {st : Shared}
mutual
theorem Dk.rd (I : Inv X pins σ H st) : ∀ {v : V} {d : PyData} {u : Value}, Dk X.K H v d → RelV v u → ∃ as, Reads st.heap u d as ∧ sysModules ∉ as
  | _, _, _, .non, r => by cases r; exact ⟨_, .none, List.not_mem_nil⟩
  | _, _, _, .bl b, r => by cases r; exact ⟨_, .bool b, List.not_mem_nil⟩
  | _, _, _, .int i, r => by obtain ⟨t, rfl⟩ := r; exact ⟨_, .int i t, List.not_mem_nil⟩
  | _, _, _, .str x, r => by obtain ⟨t, rfl⟩ := r; exact ⟨_, .str x t, List.not_mem_nil⟩
  | _, _, _, .tup hs ha, r => by
    cases r
    obtain ⟨its, rv, ⟨o, ho, hc, n, hd⟩, _⟩ := I.tuple hs
    obtain ⟨as, h1, h2⟩ := DkL.rd I ha rv
    exact ⟨as, .tuple ho hc hd h1, h2⟩
  | _, _, _, .dct (a := a) he k1 k2 d1 d2, r => by
    cases r
    obtain ⟨as, h1, h2⟩ := DkL.rd I d1 k1
    obtain ⟨bs, h3, h4⟩ := DkL.rd I d2 k2
    obtain ⟨z1, z2, o, ho, hc, hd⟩ := dct_raw I he
    refine ⟨_, .dict ho hc.1 hd h1 h3, fun hm => ?_⟩
    rcases List.mem_append.mp hm with z | z
    · rcases List.mem_cons.mp z with z | z
      · rw [← z] at z1; exact absurd z1 (by decide)
      · exact h2 z
    · exact h4 z
theorem DkL.rd (I : Inv X pins σ H st) : ∀ {vs : List V} {ds : List PyData} {us : List Value}, DkL X.K H vs ds → Vals vs us → ∃ as, ReadsAll st.heap us ds as ∧ sysModules ∉ as
  | _, _, _, .nil, r => by cases r; exact ⟨_, .nil, List.not_mem_nil⟩
  | _, _, _, .cons a b, r => by
    cases r with
    | cons r1 r2 =>
      obtain ⟨as, h1, h2⟩ := Dk.rd I a r1
      obtain ⟨bs, h3, h4⟩ := DkL.rd I b r2
      exact ⟨_, .cons h1 h3, fun hm => (List.mem_append.mp hm).elim h2 h4⟩
end
end
def pyK : Nat → D → PyData
  | _, .bl b => .bool b
  | _, .int i => .int i
  | _, .str x => .str (toStr x)
  | n + 1, .tup xs => .tuple (xs.map (pyK n))
  | n + 1, .dct kvs => .dict (kvs.map fun p => (pyK n p.1, pyK n p.2))
  | _, _ => .none
def datK : Nat → D → Bool
  | _, .non => true
  | _, .bl _ => true
  | _, .int _ => true
  | _, .str _ => true
  | n + 1, .tup xs => xs.all (datK n)
  | n + 1, .dct kvs => kvs.all fun p => datK n p.1 && datK n p.2
  | _, _ => false
section
variable {w : World} {K : PySem.W.Frag} {H : Hp} {G : Wd}
theorem dkL_of {n : Nat} (h : ∀ {v : V} {d : D}, Rep w K H G v d → datK n d = true → Dk K H v (pyK n d)) : ∀ {vs : List V} {ds : List D}, RepL w K H G vs ds → ds.all (datK n) = true → DkL K H vs (ds.map (pyK n))
  | _, _, .nil, _ => .nil
  | _, _, .cons r q, z => by
    rw [List.all_cons, Bool.and_eq_true] at z
    exact .cons (h r z.1) (dkL_of h q z.2)
theorem dk_of : ∀ (n : Nat) {v : V} {d : D}, Rep w K H G v d → datK n d = true → Dk K H v (pyK n d)
  | 0, _, _, r, z => by
    cases r with
    | non => exact .non
    | bl b => exact .bl b
    | int i => exact .int i
    | str x => exact .str _
    | _ => cases z
  | n + 1, _, _, r, z => by
    cases r with
    | non => exact .non
    | bl b => exact .bl b
    | int i => exact .int i
    | str x => exact .str _
    | tup h1 h2 => exact .tup h1 (dkL_of (dk_of n) h2 z)
    | @dct a es kvs h1 h2 h3 h4 =>
      have z : (kvs.all fun p => datK n p.1 && datK n p.2) = true := z
      obtain ⟨us, k1, k2⟩ := h3.keysV
      obtain ⟨ws, k3, k4⟩ := h3.valsV
      have e1 : (kvs.map fun p => (pyK n p.1, pyK n p.2)).map (·.1) = (kvs.map (·.1)).map (pyK n) := by simp
      have e2 : (kvs.map fun p => (pyK n p.1, pyK n p.2)).map (·.2) = (kvs.map (·.2)).map (pyK n) := by simp
      have z1 : (kvs.map (·.1)).all (datK n) = true := by
        rw [List.all_map]
        exact List.all_eq_true.mpr fun p hp => (Bool.and_eq_true _ _ ▸ List.all_eq_true.mp z p hp : _ ∧ _).1
      have z2 : (kvs.map (·.2)).all (datK n) = true := by
        rw [List.all_map]
        exact List.all_eq_true.mpr fun p hp => (Bool.and_eq_true _ _ ▸ List.all_eq_true.mp z p hp : _ ∧ _).2
      exact .dct h2 k1 k3 (by rw [e1]; exact dkL_of (dk_of n) k2 z1) (by rw [e2]; exact dkL_of (dk_of n) k4 z2)
    | _ => cases z
end
def shwK (d : D) : List Nat := (pyK 9 d).shown.cps.toList
def reprGO : Op := fun ds s => match ds with
  | [d] => if datK 9 d && (pyK 9 d).showable && Nat.ble (pyK 9 d).depth 50 && Nat.ble (shwK d).length line then .ok (.str (shwK d)) s else reprO [d] s
  | _ => .bad
section
variable {X : Cx} {T : Tb} {W : Wi}
abbrev rReprG (K : PySem.W.Frag) : List V → Hp → VK → Prop := fun xs H Q => (∃ x p, xs = [x] ∧ Dk K H x p ∧ p.showable = true ∧ p.depth ≤ 50 ∧ p.shown.length ≤ sizeLine ∧ Q (.str p.shown) H) ∨ rRepr K xs H Q
theorem call_reprG (hg : X.A.guards = some []) (hu : X.A.units + 64 < cLine) : CallR X (.builtin "repr") (rReprG X.K) := by
  intro pins st σ H xs us Q I r h
  rcases h with ⟨x, p, e, hd, hs, hdep, hsz, q⟩ | h
  · subst e
    obtain ⟨u, rfl, rv⟩ := r.one
    have fin : ∀ (h' : Heap) (t tk : Nat), (∀ b o, st.heap.get? b = some o → h'.get? b = some o) → EP X pins σ Q (.str p.shown t) { st with heap := h', toks := tk } := fun h' t tk hk => ⟨.str p.shown, H, I.kept hk, ⟨t, rfl⟩, q⟩
    obtain ⟨as, rd, hm⟩ := hd.rd I rv
    cases rd with
    | none => exact PySem.P.repr_of_none (fin _ _ _ fun _ _ e => e)
    | bool b => exact PySem.P.repr_of_bool (fin _ _ _ fun _ _ e => e)
    | int i t => exact PySem.P.repr_of_int (by simpa [PyData.showable] using hs) (fin _ _ _ fun _ _ e => e)
    | str x t => exact PySem.P.repr_of_str (fin _ _ _ fun _ _ e => e) hsz
    | list h1 h2 h3 h4 => exact repr_of_reads' (.list h1 h2 h3 h4) hs (fun _ => hm) hg (by omega) (fun _ _ e => e) fin hsz
    | tuple h1 h2 h3 h4 => exact repr_of_reads' (.tuple h1 h2 h3 h4) hs (fun _ => hm) hg (by omega) (fun _ _ e => e) fin hsz
    | dict h1 h2 h3 h4 h5 => exact repr_of_reads' (.dict h1 h2 h3 h4 h5) hs (fun _ => hm) hg (by omega) (fun _ _ e => e) fin hsz
  · exact call_repr hg hu pins st σ H xs us Q I r h
theorem reprG_ok : OpOk X T W reprGO (rReprG X.K) := fun σ H G s xs ds Q I r q => by
  unfold reprGO at q
  split at q
  · rename_i d
    split at q
    · rename_i hc
      simp only [Bool.and_eq_true, Nat.ble_eq] at hc
      obtain ⟨⟨⟨h1, h2⟩, h3⟩, h4⟩ := hc
      cases xs with
      | nil => exact r.elim
      | cons x xs =>
        cases xs with
        | cons y ys => exact r.2.elim
        | nil =>
          have rr : Rep X.w X.K H G x d := by
            have r1 := r.1
            cases d with
            | own i => cases h1
            | _ => cases r1 <;> first | exact .non | exact .bl _ | exact .int _ | exact .str _ | exact .lst (by assumption) (by assumption) (by assumption) | exact .tup (by assumption) (by assumption) | exact .dct (by assumption) (by assumption) (by assumption) (by assumption) | exact .cel (by assumption) | exact .scr (by assumption)
          refine .inl ⟨x, pyK 9 d, rfl, dk_of 9 rr h1, h2, h3, ?_, ?_⟩
          · rw [line_eq]
            refine Nat.le_trans (Nat.le_of_eq ?_) h4
            show (pyK 9 d).shown.cps.size = _
            simp [shwK]
          · have e : (pyK 9 d).shown = toStr (shwK d) := by
              show _ = (⟨_⟩ : Str)
              simp [shwK]
            rw [e]
            exact q _ _ _ Stp.refl I (.str _)
    · exact .inr (repr_ok σ H G s xs [d] Q I r q)
  · exact q.elim
end
end G

set_option Elab.async false
set_option linter.all false
set_option maxRecDepth 100000
set_option maxHeartbeats 4000000
namespace G
open PySem PySem.Spec PyProof.Rows L2
/-! ### text.join(list of texts) -/
def glueN (g : List Nat) (ps : List (List Nat)) : List Nat := (ps.drop 1).foldl (fun acc p => acc ++ g ++ p) (ps.headD [])
theorem glue_ok (g : List Nat) (ps : List (List Nat)) : Txt.join (toStr g) (ps.map toStr) = toStr (glueN g ps) := by
  have go : ∀ (qs : List (List Nat)) (acc : List Nat), (qs.map toStr).foldl (fun a p => a ++ (toStr g).cps ++ p.cps) acc.toArray = (qs.foldl (fun a p => a ++ g ++ p) acc).toArray := fun qs => by
    induction qs with
    | nil => exact fun _ => rfl
    | cons q r ih =>
      intro acc
      rw [List.map_cons, List.foldl_cons, List.foldl_cons, ← ih]
      congr 1
      simp [toStr]
  show Builtin.Str.glued _ _ = _
  unfold Builtin.Str.glued glueN
  cases ps with
  | nil => rfl
  | cons p r =>
    show Str.mk _ = _
    have := go r p
    simp only [List.map_cons, List.drop_succ_cons, List.drop_zero, List.headD_cons]
    rw [show (toStr p).cps = p.toArray from rfl, this]
    rfl
def joinM : Mop := fun d ds s => match d, ds with
  | .str g, [e] => (match (coList (content s e)).bind strsOf with
    | some ps => if (ps.map (·.length)).sum + ps.length * g.length ≤ line then .ok (.str (glueN g ps)) s else .bad
    | none => .bad)
  | _, _ => .bad
section
variable {X : Cx} {T : Tb} {W : Wi} {apos cpos : Pos}
abbrev rJoin (K : PySem.W.Frag) : V → List V → Hp → VK → Prop := fun x xs H Q => ∃ (g : Str) (p : Addr) (ys : List Str), x = .str g ∧ xs = [.ref p] ∧ SqL K H p (ys.map V.str) ∧ (ys.map (·.length)).sum + ys.length * g.length ≤ 16777216 ∧ Q (.str (Txt.join g ys)) H
theorem mt_join : MtR X "str.join" (rJoin X.K) := by
  intro pins st σ H x xs v us Q I rx rv ⟨g, p, ys, e1, e2, hq, hz, q⟩
  subst e1 e2
  obtain ⟨t, rfl⟩ := rx
  obtain ⟨u, rfl, ru⟩ := rv.one
  obtain rfl : u = Value.ref p := ru
  obtain ⟨its, r, pl, _⟩ := I.list hq
  exact join_list pl.isList (Vals.strs r) hz fun t' k => ⟨.str _, H, I.kept (t' := k) fun _ _ e => e, ⟨t', rfl⟩, q⟩
theorem join_ok : MOk X T W joinM (rJoin X.K) := by
  intro σ H G s x xs d ds Q I r1 r2 q
  unfold joinM at q
  split at q
  · rename_i g e
    cases c : content s e with
    | none => rw [c] at q; exact q.elim
    | some co =>
      rw [c] at q
      cases co with
      | L zs =>
        have q : ((match strsOf zs with
          | some ps => if (ps.map (·.length)).sum + ps.length * g.length ≤ line then R.ok (D.str (glueN g ps)) s else .bad
          | none => .bad) : R D).holds (PV X.w X.K T Q σ H G s) (PX X.w X.K T W σ H G s) := q
        cases c2 : strsOf zs with
        | none => rw [c2] at q; exact q.elim
        | some ps =>
          rw [c2] at q
          simp only at q
          split at q
          · rename_i hz
            cases r1
            cases r2 with
            | cons r3 r4 =>
              cases r4
              obtain ⟨a, vs, rfl, h1, h2⟩ := content_L I (RepT.of r3) c
              rw [strsOf_ok c2] at h2
              have hv : vs = (ps.map toStr).map V.str := by
                clear q hz c c2 h1
                induction ps generalizing vs with
                | nil => cases h2; rfl
                | cons y r ih =>
                  cases h2 with
                  | cons a b => cases a; rw [ih _ b]; rfl
              refine ⟨_, a, ps.map toStr, rfl, rfl, .inl (.inl (by rw [← hv]; exact h1)), ?_, ?_⟩
              · have e1 : ((ps.map toStr).map (·.length)) = ps.map (·.length) := by
                  rw [List.map_map]
                  exact List.map_congr_left fun y _ => length_toStr y
                rw [e1, List.length_map, length_toStr]
                exact hz
              · rw [glue_ok]
                exact q _ _ _ Stp.refl I (.str _)
          · exact q.elim
      | _ => exact q.elim
  · exact q.elim
variable {o e : Expr} {fo fe : Ex}
theorem sv_join (ho : SO X T W o fo) (he : SV X T W e fe)
    (hb : attributeBase o "join" X.env (eval o X.env) = eval o X.env := by rfl)
    (hf : ((backTo cpos (starEach [e] X.env)).all (fun y => !y.1) && (backToKw cpos (keywordEach [] X.env)).all (fun y => y.1.isSome) && decide ([e].length + ([] : List Keyword).length + (if ([] : List Keyword).isEmpty then 0 else 1) < 30)) = true := by rfl)
    (hl : (apos.endLine == cpos.line) = true := by rfl) (h1 : starEach [e] X.env = (false, eval e X.env) :: starEach [] X.env := by rfl) (hz : (backTo cpos (starEach [] X.env)).any (·.1) = false := by rfl) :
    SV X T W (.Call (.Attribute o "join" apos) [e] [] cpos) (mthE "str" joinM fo (consA fe nilA)) :=
  sv_m join_ok F.plainAttrs_str F.slot_str_join F.type_str_join mt_join ho (sl_cons he sl_nil h1) hb hf hl h1 hz
end
end G

set_option Elab.async false
set_option linter.all false
set_option maxRecDepth 100000
set_option maxHeartbeats 4000000
/-! ### tuple * int -/
namespace PySem
open Sem (wp)
open Builtin
theorem gTupFill : fillsNumberSlot (.type "tuple") "mul" = pure false :=
  fillsNumberSlot_seq (id := "tuple.__mul__") (r := some (.builtin "tuple.__rmul__")) F.slot_tuple_mul.lookup (by decide +kernel) F.slot_tuple_rmul.lookup (by decide +kernel)
theorem gTupRep : seqRepeat? (.type "tuple") = pure (some (.builtin "tuple.__mul__")) := by
  unfold seqRepeat?
  rw [seqSlot_of (T := "tuple") (name := "__mul__") (id := "tuple.__mul__") F.slot_tuple_mul.lookup (by decide +kernel), seqSlot_of (T := "tuple") (name := "__rmul__") (id := "tuple.__rmul__") F.slot_tuple_rmul.lookup (by decide +kernel)]
  rfl
theorem gIntRmulTup (a : Int) (t : Tok) (l : Addr) (items : Array Value) (n : Nat) (dd : Option Addr) (sl : Array (Option Value)) :
    Meets (Builtin.«int.__rmul__» ⟨[.int a t, .ref l], []⟩) (fun _ Z s => s.heap.get? l = some { cls := .type "tuple", dict := dd, data := .seq items n, slots := sl } ∧ Z (.ok (.ret Value.notImplemented)) s) :=
  .of_wp fun prog w A Z s h => by obtain ⟨hp, g, d, tk, os⟩ := s; obtain ⟨hl, h⟩ := h; wp_walk; exact ⟨_, rfl, h⟩
theorem gCat {α : Type} (L : List (Array α)) : ∀ acc : Array α, (L.foldl (fun a b => a ++ b) acc).toList = acc.toList ++ (L.map Array.toList).flatten := by
  induction L with
  | nil => intro acc; simp
  | cons x r ih => intro acc; rw [List.foldl_cons, ih]; simp
theorem gCatRep {α : Type} (k : Nat) (xs : Array α) : (List.replicate k xs).foldl (fun a b => a ++ b) #[] = ((List.replicate k xs.toList).flatten).toArray := by
  have h := gCat (List.replicate k xs) #[]
  rw [List.map_replicate] at h
  have : ((List.replicate k xs).foldl (fun a b => a ++ b) #[]).toList.toArray = ([] ++ (List.replicate k xs.toList).flatten).toArray := by rw [h]
  simpa using this
theorem gRepLen {α : Type} (k : Nat) (xs : List α) : ((List.replicate k xs).flatten).length = k * xs.length := by simp
theorem gLine : sizeLine = 16777216 := by kernel_rfl
theorem gTupMul (l : Addr) (items : Array Value) (n : Nat) (dd : Option Addr) (sl : Array (Option Value)) (x : Int) (u : Tok) (h2 : 2 ≤ x) (hx : x < 2 ^ 62) (hne : items.isEmpty = false) (hsz : items.size * x.toNat ≤ 16777216) :
    Meets (Builtin.«tuple.__mul__» ⟨[.ref l, .int x u], []⟩) (fun _ Z s => s.heap.get? l = some { cls := .type "tuple", dict := dd, data := .seq items n, slots := sl } ∧
      Z (.ok (.ret (Value.ref s.heap.objs.size))) { s with heap := s.heap.push { cls := .type "tuple", data := .seq ((List.replicate x.toNat items).foldl (· ++ ·) #[]) } }) :=
  .of_wp fun prog w A Z s h => by
    obtain ⟨hp, g, d, tk, os⟩ := s; obtain ⟨hl, h⟩ := h
    have f1 := AutoSeq1.idx_int; have f2 := AutoSeq1.sub_tuple_tuple
    have c1 : (decide (x < -2 ^ 63) || decide (x ≥ 2 ^ 63)) = false := by
      simp only [Bool.or_eq_false_iff, decide_eq_false_iff_not]
      omega
    have c2 : (items.isEmpty || x == 1) = false := by
      rw [hne, Bool.false_or]
      exact beq_eq_false_iff_ne.mpr (by omega)
    have c3 : (decide (x ≤ 0) || items.isEmpty) = false := by
      rw [hne, Bool.or_false]
      exact decide_eq_false (by omega)
    wp_walk using AutoSeq1.wpAny_loadPart' hl
    refine wpAny_ite_false (decide_eq_false (by rw [c1]; exact Bool.false_ne_true)) ?_
    wp_walk using AutoSeq1.wpAny_loadPart' hl
    refine wpAny_ite_false (decide_eq_false (by rw [c2]; exact Bool.false_ne_true)) ?_
    wp_walk using AutoSeq1.wpAny_loadPart' hl
    refine wpAny_ite_false (decide_eq_false (by rw [c3]; exact Bool.false_ne_true)) ?_
    wp_walk using AutoSeq1.wpAny_loadPart' hl
    have e1 : (items.size : Int) * x ≤ 16777216 := by
      have z : (items.size : Int) * x = ((items.size * x.toNat : Nat) : Int) := by
        rw [Int.natCast_mul, Int.toNat_of_nonneg (by omega)]
      rw [z]
      generalize items.size * x.toNat = k at hsz ⊢
      omega
    refine wpAny_ite_false (decide_eq_false (by omega)) ?_
    wp_walk using AutoSeq1.wpAny_loadPart' hl
    have c5 : Builtin.Tuple.tupleTooMany ((items.size : Int) * x) = false := by
      unfold Builtin.Tuple.tupleTooMany
      rw [gLine]
      exact decide_eq_false (by omega)
    refine wpAny_ite_false (decide_eq_false (by rw [c5]; exact Bool.false_ne_true)) ?_
    wp_walk using AutoSeq1.wpAny_loadPart' hl
    have e2 : ((List.replicate x.toNat items).foldl (fun a b => a ++ b) #[]).size ≤ 16777216 := by
      rw [gCatRep, List.size_toArray, gRepLen, Array.length_toList, Nat.mul_comm]
      exact hsz
    refine wpAny_ite_false (decide_eq_false (by rw [gLine]; omega)) ?_
    wp_walk using AutoSeq1.wpAny_loadPart' hl
    exact ⟨_, rfl, h⟩
theorem gTupTimes {prog : Program} {w : World} {A : Around} {E : Value → Shared → Prop} {s : Shared} {l : Addr} {vs : List Value} {x : Int} {u : Tok} {Q : Value → Shared → Prop} (ht : s.heap.IsTuple l vs.toArray) (h2 : 2 ≤ x) (hx : x < 2 ^ 62) (hne : vs ≠ []) (hsz : x.toNat * vs.length ≤ 16777216)
    (h : Q (.ref s.heap.objs.size) { s with heap := s.heap.push { cls := .type "tuple", data := .seq ((List.replicate x.toNat vs).flatten).toArray } }) : wpAny (model prog w) A (binaryOp .Mult (.ref l) (.int x u)) Q E s := by
  obtain ⟨⟨c, q, d, z⟩, hl, hc, n, hd⟩ := id ht
  simp only at hc hd
  subst hc hd
  refine wpAny_binaryOp_repeat_ref (T := "tuple") (U := "int") (by decide) ⟨_, hl, rfl⟩ (fun s' => typeIs_int s' x u) gTupFill F.fills_int_mul F.slot_int_rmul gTupRep F.slot_int_index.lookup
    (call_meets F.slot_int_rmul (typeIs_int s x u) F.entry_int_rmul (F.args_int_rmul_2 _ _) (gIntRmulTup x u l vs.toArray n q z)
      ⟨hl, rfl, ⟨_, hl, rfl⟩, call_meets F.slot_tuple_mul ⟨_, hl, rfl⟩ F.entry_tuple_mul (F.args_tuple_mul_2 _ _)
        (gTupMul l vs.toArray n q z x u h2 hx (by cases vs with | nil => exact absurd rfl hne | cons a r => rfl) (by rw [List.size_toArray, Nat.mul_comm]; exact hsz)) ⟨hl, ?_⟩⟩)
  rw [gCatRep]
  exact h
end PySem
namespace G
open PySem PySem.Spec PyProof.Rows L2
@[irreducible] def mulGD : D → D → Ex := fun d e s => match d, e with
  | .tup xs, .int n => if 2 ≤ n ∧ n < 1073741824 ∧ xs.isEmpty = false ∧ n.toNat * xs.length ≤ line then .ok (.tup (List.replicate n.toNat xs).flatten) s else .bad
  | d, e => numI mulI d e s
section
variable {X : Cx} {T : Tb} {W : Wi}
theorem RepL.reps {w : World} {K : PySem.W.Frag} {H : Hp} {G : Wd} {vs : List V} {ds : List D} (h : RepL w K H G vs ds) : ∀ k : Nat, RepL w K H G (List.replicate k vs).flatten (List.replicate k ds).flatten
  | 0 => .nil
  | k + 1 => by
    rw [List.replicate_succ, List.replicate_succ, List.flatten_cons, List.flatten_cons]
    exact h.append (RepL.reps h k)
theorem vals_reps {vs : List V} {us : List Value} (h : Vals vs us) : ∀ k : Nat, Vals (List.replicate k vs).flatten (List.replicate k us).flatten
  | 0 => .nil
  | k + 1 => by
    rw [List.replicate_succ, List.replicate_succ, List.flatten_cons, List.flatten_cons]
    exact h.append (vals_reps h k)
theorem b2_mulG : B2 X T W (binaryOp .Mult) mulGD := by
  intro pins st σ H x y v u G s d e Q I rx ry J r1 r2 q
  unfold mulGD at q
  split at q
  · rename_i xs n
    split at q
    · rename_i hc
      obtain ⟨h1, h2, h3, h4⟩ := hc
      cases r2
      obtain ⟨t, rfl⟩ := ry
      cases r1 with
      | @tup a vs _ hs hr =>
        obtain rfl : v = Value.ref a := rx
        obtain ⟨its, rv, p, hz⟩ := I.tuple hs
        have p : st.heap.IsTuple a its.toArray := p
        have l1 := hr.length
        have l2 := rv.length
        have ne : its ≠ [] := fun z => by
          rw [z] at l2
          have : xs = [] := List.eq_nil_of_length_eq_zero (by rw [← l1, l2]; rfl)
          rw [this] at h3
          cases h3
        have hz2 : n.toNat * its.length ≤ 16777216 := by rw [← l2, l1]; exact Nat.le_trans h4 (Nat.le_of_eq rfl)
        refine gTupTimes p h1 (by omega) ne hz2 ?_
        have fr : H st.heap.objs.size = none := I.hok.fresh (Nat.le_refl _)
        have len : (List.replicate n.toNat vs).flatten.length ≤ sizeLine := by rw [gRepLen, l2, gLine]; exact hz2
        refine ⟨.ref st.heap.objs.size, upd H st.heap.objs.size (.tup (List.replicate n.toNat vs).flatten), I.laid (t' := st.toks) (fun b u e => Heap.get?_push_of_some _ e) (Nat.le_refl _) ?_, rfl, ?_⟩
        · exact ⟨len, (List.replicate n.toNat its).flatten, vals_reps rv n.toNat, ⟨_, Heap.get?_push_size _ rfl, rfl, _, rfl⟩⟩
        · exact q _ _ _ (Stp.fresh fr) (J.fresh fr) (.tup (.inl (.inl upd_same)) ((hr.reps n.toNat).kp (J.kp (Stp.fresh fr))))
    · exact q.elim
  · exact b2_mulI pins st σ H x y v u G s _ _ Q I rx ry J r1 r2 q
end
end G

set_option Elab.async false
set_option linter.all false
set_option maxRecDepth 100000
set_option maxHeartbeats 4000000
namespace G
open PySem PySem.Spec PyProof.Rows L2
/-! ### list(d.values()) -/
section
variable {X : Cx} {T : Tb} {W : Wi} {pos : Pos}
abbrev rListC (K : PySem.W.Frag) : List V → Hp → VK → Prop := fun xs H Q => ∃ x us, xs = [x] ∧ CollV K H x us ∧ ∀ l, H l = none → Q (.ref l) (upd H l (.lst us))
theorem cr_listC (hc : X.calm = true) : CallR X (.type "list") (rListC X.K) := by
  intro pins st σ H xs us Q I r ⟨x, ws, e, hcol, h⟩
  rcases hcol with ⟨a, rfl, hs⟩ | ⟨a, q, rfl, ha, hv⟩ | ⟨p, a, q, rfl, hp, ha, hv⟩
  · exact cr_listG hc pins st σ H xs us Q I r (.inl ⟨a, ws, e, .inl hs, h⟩)
  · exact cr_listG hc pins st σ H xs us Q I r (.inr ⟨a, q, ws, e, ha, hv, h⟩)
  · subst e
    obtain ⟨u, rfl, ru⟩ := r.one
    obtain rfl : u = Value.ref p := ru
    obtain ⟨hs, hl, raw⟩ := dct_raw I ha
    have e := (I.hok p _ hp).1
    refine PySem.W.kdl_call (PySem.KdlSrc.rawValues (r := p)) (I.ok.hd hc) ⟨⟨_, e, rfl, rfl⟩, raw⟩ (by rw [List.size_toArray]; exact hl) fun h' tk acc' c' kp e hacc => ?_
    have r2 := items_vals hv hacc
    have hl2 : ws.length ≤ sizeLine := by rw [hv.length, List.length_map]; exact hl
    exact ⟨.ref st.heap.objs.size, _, I.laid (t' := tk) kp (Nat.le_refl _) (show ObjOk X.prog X.w _ h' _ (.lst ws) from ⟨hl2, acc'.toList, c', r2, by simpa using e⟩), rfl, h _ (I.hok.fresh (Nat.le_refl _))⟩
def listCF (f : Cx') : Fx := fun s => (f s).bind fun ds s => .ok (.L ds) s
theorem sf_listC {e : Expr} {f : Cx'} {p : Pos} (hc : X.calm = true) (hg : Gl X "list") (hm : X.mg "list" = none) (h : SCo X T W e f) (he : starEach [e] X.env = (false, eval e X.env) :: starEach [] X.env := by rfl) (hpl : (backTo pos (starEach [] X.env)).any (·.1) = false := by rfl) : SF X T W (.Call (.Name "list" p) [e] [] pos) (listCF f) := by
  refine PE.imp (pe_callTy (cr_listC hc) hg hm (by decide +kernel) (pa_cons h pa_nil he) (by decide) (by decide) he hpl) fun σ H Q ⟨G, s, I, q⟩ => ?_
  refine ⟨G, s, I, ?_⟩
  unfold listCF at q
  cases e1 : f s with
  | exc c d s1 => rw [e1] at q; exact q
  | bad => rw [e1] at q; exact q
  | ok ds s1 =>
    rw [e1] at q
    intro H1 G1 x us b1 J1 hcol hrd
    exact ⟨x, us, rfl, hcol, fun l hl => pf_new (c := .L ds) I b1 J1 hl (fun k => ⟨us, upd_same, hrd.kp k⟩) q⟩
end
end G

set_option Elab.async false
set_option linter.all false
set_option maxRecDepth 100000
set_option maxHeartbeats 4000000
namespace G
open PySem PySem.Spec PyProof.Rows L2
/-! ### [*zip(xs, ys)] -/
theorem gz_nolen : typeLookup (.type "zip") "__len__" = pure none := by rw [typeLookup_type, builtinLookup_eq_fast]; kernel_rfl
theorem gz_nohint : typeLookup (.type "zip") "__length_hint__" = pure none := by rw [typeLookup_type, builtinLookup_eq_fast]; kernel_rfl
/-- what a zip needs while it goes -/
structure Gz (h : Heap) (z TI TO i1 i2 l1 l2 : Addr) (xs ys : Array Value) (i : Nat) (S : Addr) : Prop where
  ti : IsPair h TI (.ref i1) (.ref i2)
  a1 : h.IsListIter i1 l1 i
  a2 : h.IsListIter i2 l2 i
  b1 : h.IsList l1 xs
  b2 : h.IsList l2 ys
  to : ∃ o, h.get? TO = some o
  st : (IsZip h z TI TO .none ∧ ∃ a b, IsPair h TO a b) ∨ ∃ T f oT, IsZipHeld h z TI TO T f ∧ h.get? T = some oT ∧ T ≠ S ∧ T ≠ z ∧ T ≠ i1 ∧ T ≠ i2
/-- the pairs made so far -/
def Gp (xs ys : Array Value) (h : Heap) (z TO i1 i2 S : Addr) (as : List Addr) : Prop := (as.Pairwise (· < ·) ∧ ∀ a ∈ as, S ≤ a ∧ a < h.objs.size) ∧ ∀ (j : Nat) (a : Addr), as[j]? = some a → a ≠ S ∧ a ≠ z ∧ a ≠ TO ∧ a ≠ i1 ∧ a ≠ i2 ∧ ∃ x y, xs[j]? = some x ∧ ys[j]? = some y ∧ IsPair h a x y
section
variable {prog : Program} {w : World} {A : Around} {s : Shared} {R : Result → Shared → Prop} {z TI TO i1 i2 l1 l2 S : Addr} {xs ys : Array Value}
theorem gz_loop (hh : A.handled = none) (D : ZipApart z TI TO i1 i2 l1 l2) (nS : S ≠ z ∧ S ≠ TI ∧ S ≠ TO ∧ S ≠ i1 ∧ S ≠ i2 ∧ S ≠ l1 ∧ S ≠ l2) (hn : min xs.size ys.size ≤ sizeLine) (res : Value) {h₁ : Heap}
    (hR : ∀ h' tk acc c as, (∀ b o, b ≠ S → b ≠ z → b ≠ TO → b ≠ i1 → b ≠ i2 → h₁.get? b = some o → h'.get? b = some o) → h'.get? S = some { cls := .type "list", dict := none, data := .seq acc c, slots := #[] } → as.length = min xs.size ys.size → Gp xs ys h' z TO i1 i2 S as →
      acc.toList = as.map Value.ref → R (.ok (.ret res)) { s with heap := h', toks := tk }) :
    ∀ (k i : Nat) (h : Heap) (tk c : Nat) (acc : Array Value) (as : List Addr), min xs.size ys.size - i = k → i ≤ min xs.size ys.size → Gz h z TI TO i1 i2 l1 l2 xs ys i S → (∀ b o, b ≠ S → b ≠ z → b ≠ TO → b ≠ i1 → b ≠ i2 → h₁.get? b = some o → h.get? b = some o) →
      h.get? S = some { cls := .type "list", dict := none, data := .seq acc c, slots := #[] } → acc.toList = as.map Value.ref → as.length = i → Gp xs ys h z TO i1 i2 S as →
      codeAny (model prog w) A (.builtin "list.extend.loop" ⟨[.ref S, .ref z, res], []⟩) R { s with heap := h, toks := tk } := by
  obtain ⟨n1, n2, n3, n4, n5, n6, n7⟩ := nS
  intro k
  induction k with
  | zero =>
    intro i h tk c acc as hk hi g hkeep hS hacc hal hG
    have hend : xs[i]? = none ∨ ys[i]? = none := by
      have : xs.size ≤ i ∨ ys.size ≤ i := by omega
      rcases this with q | q
      · exact .inl (Array.getElem?_eq_none q)
      · exact .inr (Array.getElem?_eq_none q)
    refine codeAny_builtin PySem.F.entry_extend_loop ?_
    rw [Around.under_plainId PySem.F.plain_extend_loop _]
    show wpAny _ A.in1 (pyNext (.ref z) >>= _) _ _ _
    have fin : ∀ h', (∀ c o, c ≠ z → c ≠ TO → c ≠ i1 → c ≠ i2 → h.get? c = some o → h'.get? c = some o) → R (.ok (.ret res)) { s with heap := h', toks := tk } := fun h' he => by
      refine hR h' tk acc c as (fun b o h1 h2 h3 h4 h5 e => he b o h2 h3 h4 h5 (hkeep b o h1 h2 h3 h4 h5 e)) (he S _ n1 n3 n4 n5 hS) (by omega) ⟨⟨hG.1.1, fun a ha => ?_⟩, fun j a hj => ?_⟩ hacc
      · obtain ⟨j, hj⟩ := List.mem_iff_getElem?.mp ha
        obtain ⟨q0, q1, q2, q3, q4, x, y, hx, hy, hp⟩ := hG.2 j a hj
        exact ⟨(hG.1.2 a ha).1, Heap.lt_size (he a _ q1 q2 q3 q4 hp)⟩
      obtain ⟨q0, q1, q2, q3, q4, x, y, hx, hy, hp⟩ := hG.2 j a hj
      exact ⟨q0, q1, q2, q3, q4, x, y, hx, hy, he a _ q1 q2 q3 q4 hp⟩
    rcases g.st with ⟨hz, a, b, hTO⟩ | ⟨T, f, oT, hz, hT, _, _, _, _⟩
    · exact wpAny_bind (wpAny_pyNext_zip_end (s := { s with heap := h, toks := tk }) (A := A.in1) hh D hz g.ti hTO g.a1 g.a2 g.b1 g.b2 hend fun h' he => wpAny_pure (fin h' he))
    · exact wpAny_bind (wpAny_pyNext_zip_end_held (s := { s with heap := h, toks := tk }) (A := A.in1) hh D hz hT g.ti g.a1 g.a2 g.b1 g.b2 hend fun h' he => wpAny_pure (fin h' fun c o c1 _ c3 c4 e => he c o c1 c3 c4 e))
  | succ k ih =>
    intro i h tk c acc as hk hi g hkeep hS hacc hal hG
    have hx : i < xs.size := by omega
    have hy : i < ys.size := by omega
    have hsz : acc.size = i := by rw [← Array.length_toList, hacc, List.length_map, hal]
    refine codeAny_builtin PySem.F.entry_extend_loop ?_
    rw [Around.under_plainId PySem.F.plain_extend_loop _]
    show wpAny _ A.in1 (pyNext (.ref z) >>= _) _ _ _
    have step : ∀ h', (∃ T f oT, IsZipHeld h' z TI TO T f ∧ h'.get? T = some oT ∧ T ≠ S ∧ T ≠ z ∧ T ≠ i1 ∧ T ≠ i2) → (∃ o, h'.get? TO = some o) → h'.IsListIter i1 l1 (i + 1) → h'.IsListIter i2 l2 (i + 1) → IsPair h' h.objs.size xs[i] ys[i] → (∀ c o, c ≠ z → c ≠ TO → c ≠ i1 → c ≠ i2 → h.get? c = some o → h'.get? c = some o) →
        wpAny (model prog w) A.in1 (updateSeq S (·.push (Value.ref h.objs.size)) >>= fun _ => again (.builtin "list.extend.loop" ⟨[.ref S, .ref z, res], []⟩)) (fun fin s' => match fin with | .done f => R (.ok f) s' | .again c' => c'.quiet = true ∧ codeAny (model prog w) A c' R s') (fun e s' => R (.error e) s') { s with heap := h', toks := tk } := by
      intro h' ⟨T', f', oT', hz', hT', y1, y2, y3, y4⟩ ⟨oTO, hTO'⟩ j1 j2 hp hkp
      have hS' := hkp S _ n1 n3 n4 n5 hS
      have up : ∀ b o, b ≠ S → h'.get? b = some o → (h'.update S (Obj.mapSeq (·.push (Value.ref h.objs.size)))).get? b = some o := fun b o hb e => (Heap.get?_update_other _ _ (Ne.symm hb)).trans e
      have lt : ∀ {c o}, h.get? c = some o → h.objs.size ≠ c := fun e => Nat.ne_of_gt (Heap.lt_size e)
      have hTz : h.objs.size ≠ z := by
        rcases g.st with ⟨hz, _⟩ | ⟨T, f, oT, hz, _⟩
        · exact lt hz
        · exact lt hz
      have hT1 : h.objs.size ≠ i1 := by obtain ⟨_, e, _⟩ := g.a1; exact lt e
      have hT2 : h.objs.size ≠ i2 := by obtain ⟨_, e, _⟩ := g.a2; exact lt e
      refine wpAny_bind ?_
      refine wpAny_updateSeq hS' rfl (wpAny_pure ⟨plainId_quiet PySem.F.plain_extend_loop _, ih (i + 1) _ tk _ (acc.push (Value.ref h.objs.size)) (as ++ [h.objs.size]) (by omega) (by omega) ?_ ?_ (Heap.get?_update_self _ hS' rfl) (by rw [Array.toList_push, hacc, List.map_append]; rfl) (by rw [List.length_append, hal]; rfl) ?_⟩)
        (by rw [hsz]; omega) (by show (acc.push (Value.ref h.objs.size)).size ≤ sizeLine + 1; rw [Array.size_push, hsz]; omega)
      · refine ⟨up _ _ n2.symm (hkp _ _ D.TIz D.TITO D.TIi1 D.TIi2 g.ti), j1.at fun o e => up _ _ n4.symm e, j2.at fun o e => up _ _ n5.symm e, ?_, ?_, ⟨_, up _ _ n3.symm hTO'⟩, .inr ⟨T', f', _, up _ _ n1.symm hz', up _ _ y1 hT', y1, y2, y3, y4⟩⟩
        · exact (g.b1.at fun o e => hkp _ o D.l1z D.l1TO D.l1i1 D.l1i2 e).at fun o e => up _ _ n6.symm e
        · exact (g.b2.at fun o e => hkp _ o D.l2z D.l2TO D.l2i1 D.l2i2 e).at fun o e => up _ _ n7.symm e
      · exact fun b o h1 h2 h3 h4 h5 e => up b o h1 (hkp b o h2 h3 h4 h5 (hkeep b o h1 h2 h3 h4 h5 e))
      · refine ⟨⟨?_, ?_⟩, ?_⟩
        · refine List.pairwise_append.mpr ⟨hG.1.1, List.pairwise_singleton _ _, fun a ha b hb => ?_⟩
          rw [List.mem_singleton.mp hb]
          exact (hG.1.2 a ha).2
        · intro a ha
          rcases List.mem_append.mp ha with ha | ha
          · obtain ⟨j, hj⟩ := List.mem_iff_getElem?.mp ha
            obtain ⟨q0, q1, q2, q3, q4, x, y, ex, ey, e3⟩ := hG.2 j a hj
            exact ⟨(hG.1.2 a ha).1, Heap.lt_size (up a _ q0 (hkp a _ q1 q2 q3 q4 e3))⟩
          · rw [List.mem_singleton.mp ha]
            exact ⟨Nat.le_of_lt (Heap.lt_size hS), Heap.lt_size (up _ _ (lt hS) hp)⟩
        intro j b hj
        rcases Nat.lt_trichotomy j as.length with q | q | q
        · rw [List.getElem?_append_left q] at hj
          obtain ⟨q0, q1, q2, q3, q4, x, y, ex, ey, e3⟩ := hG.2 j b hj
          exact ⟨q0, q1, q2, q3, q4, x, y, ex, ey, up b _ q0 (hkp b _ q1 q2 q3 q4 e3)⟩
        · subst q
          have hb : h.objs.size = b := by simpa using hj
          subst hb
          have hTO : h.objs.size ≠ TO := fun e => by
            obtain ⟨o, t⟩ := g.to
            exact lt t e
          exact ⟨lt hS, hTz, hTO, hT1, hT2, xs[i], ys[i], by rw [hal]; exact Array.getElem?_eq_getElem hx, by rw [hal]; exact Array.getElem?_eq_getElem hy, up _ _ (lt hS) hp⟩
        · have hnone : (as ++ [h.objs.size])[j]? = none := List.getElem?_eq_none (by rw [List.length_append, List.length_singleton]; omega)
          rw [hnone] at hj; cases hj
    have lt : ∀ {c o}, h.get? c = some o → h.objs.size ≠ c := fun e => Nat.ne_of_gt (Heap.lt_size e)
    rcases g.st with ⟨hz, a, b, hTO⟩ | ⟨T, f, oT, hz, hT, t1, t2, t3, t4⟩
    · exact wpAny_bind (wpAny_pyNext_zip_item (s := { s with heap := h, toks := tk }) (A := A.in1) D hz g.ti hTO g.a1 g.a2 g.b1 g.b2 (Array.getElem?_eq_getElem hx) (Array.getElem?_eq_getElem hy) fun h' q1 q2 q3 q4 q5 q6 hk => step h' ⟨h.objs.size, false, _, q1, q5, lt hS, lt hz, (by obtain ⟨_, e, _⟩ := g.a1; exact lt e), (by obtain ⟨_, e, _⟩ := g.a2; exact lt e)⟩ ⟨_, q2⟩ q3 q4 q5 hk)
    · exact wpAny_bind (wpAny_pyNext_zip_item_held (s := { s with heap := h, toks := tk }) (A := A.in1) D hz hT g.ti g.a1 g.a2 g.b1 g.b2 (Array.getElem?_eq_getElem hx) (Array.getElem?_eq_getElem hy) fun h' q1 q3 q4 q5 q6 hk => step h' ⟨T, true, _, q1, hk _ _ t2 t3 t4 hT, t1, t2, t3, t4⟩ (by obtain ⟨o, e⟩ := g.to; exact ⟨o, hk _ _ D.TOz D.TOi1 D.TOi2 e⟩) q3 q4 q5 fun c o c1 _ c3 c4 e => hk c o c1 c3 c4 e)
theorem gz_hint {prog : Program} {w : World} {A : Around} {E : Value → Shared → Prop} {s : Shared} {r : Addr} (hT : s.TypeIs (.ref r) "zip") {Q : Bool → Shared → Prop} (h : Q true s) : wpAny (model prog w) A (Builtin.List.listLengthHint (.ref r)) Q E s := by
  unfold Builtin.List.listLengthHint
  refine wpAny_bind (wpAny_specialOf hT gz_nolen ?_)
  show wpAny _ A (specialOf (Value.ref r) (Str.ofString "__length_hint__") >>= _) _ _ _
  refine wpAny_bind (wpAny_specialOf hT gz_nohint ?_)
  exact wpAny_pure h
/-- the pairs of a fresh zip, gathered -/
theorem gz_star {prog : Program} {w : World} {A : Around} {E : Value → Shared → Prop} {s : Shared} {R : List Value → Shared → Prop} {z TI TO i1 i2 l1 l2 : Addr} {xs ys : Array Value} (hh : A.handled = none) (D : ZipApart z TI TO i1 i2 l1 l2)
    (hz : IsZip s.heap z TI TO .none) (hTI : IsPair s.heap TI (.ref i1) (.ref i2)) {a b : Value} (hTO : IsPair s.heap TO a b) (h1 : s.heap.IsListIter i1 l1 0) (h2 : s.heap.IsListIter i2 l2 0) (hl1 : s.heap.IsList l1 xs) (hl2 : s.heap.IsList l2 ys) (hn : min xs.size ys.size ≤ sizeLine)
    (h : ∀ (h' : Heap) (tk : Nat) (as : List Addr), (∀ b o, b ≠ z → b ≠ TO → b ≠ i1 → b ≠ i2 → s.heap.get? b = some o → h'.get? b = some o) → as.length = min xs.size ys.size → as.Pairwise (· < ·) → (∀ a ∈ as, s.heap.objs.size ≤ a) → (∀ (j : Nat) (a : Addr), as[j]? = some a → ∃ x y, xs[j]? = some x ∧ ys[j]? = some y ∧ IsPair h' a x y) → R (as.map Value.ref) { s with heap := h', toks := tk }) :
    PySem.W.StarOf (model prog w) A E (.ref z) R s := by
  have lz : z < s.heap.objs.size := Heap.lt_size hz
  have lTI : TI < s.heap.objs.size := Heap.lt_size hTI
  have lTO : TO < s.heap.objs.size := Heap.lt_size hTO
  have li1 : i1 < s.heap.objs.size := by obtain ⟨_, e, _⟩ := h1; exact Heap.lt_size e
  have li2 : i2 < s.heap.objs.size := by obtain ⟨_, e, _⟩ := h2; exact Heap.lt_size e
  have ll1 : l1 < s.heap.objs.size := by obtain ⟨_, e, _⟩ := hl1; exact Heap.lt_size e
  have ll2 : l2 < s.heap.objs.size := by obtain ⟨_, e, _⟩ := hl2; exact Heap.lt_size e
  have hT : s.TypeIs (.ref z) "zip" := ⟨_, hz, rfl⟩
  have cz : wpAny (model prog w) A (collect (.ref z)) R E s := by
    unfold collect
    refine wpAny_bind (wpAny_runValue (codeAny_builtin entry_proto_collect' ?_))
    rw [Around.under_plainId PySem.F.plain_proto_collect _]
    show wpAny _ A.in1 (newList [] >>= fun l => again (.builtin "list.__iadd__" ⟨[l, .ref z], []⟩)) _ _ s
    refine wpAny_bind (wpAny_newObj_type ?_)
    refine wpAny_pure ⟨plainId_quiet PySem.F.plain_list_iadd _, codeAny_builtin entry_list_iadd' ?_⟩
    rw [Around.under_plainId PySem.F.plain_list_iadd _]
    have hS₁ : (s.heap.push { cls := .type "list", data := .seq ([] : List Value).toArray }).get? s.heap.objs.size = some { cls := .type "list", data := .seq #[] } := Heap.get?_push_size _ rfl
    have up : ∀ b o, s.heap.get? b = some o → (s.heap.push { cls := .type "list", data := .seq ([] : List Value).toArray }).get? b = some o := fun b o e => Heap.get?_push_of_some _ e
    show wpAny _ A.in1 (Builtin.List.listExtendWith (.ref s.heap.objs.size) (.ref z) (.ref s.heap.objs.size)) _ _ _
    unfold Builtin.List.listExtendWith
    have hT1 : ({ s with heap := s.heap.push { cls := .type "list", data := .seq ([] : List Value).toArray } } : Shared).TypeIs (.ref z) "zip" := ⟨_, up _ _ hz, rfl⟩
    refine wpAny_bind (wpAny_typeOf (T := "zip") hT1 ?_)
    have k1 : Builtin.List.listSameRef (.ref s.heap.objs.size) (.ref z) = false := by simp [Builtin.List.listSameRef, Nat.ne_of_gt lz]
    have k2 : (Value.type "zip" == Value.type "list") = false := by decide
    have k3 : (Value.type "zip" == Value.type "tuple") = false := by decide
    simp only [k1, k2, k3, Bool.or_false, Bool.false_eq_true, if_false]
    refine wpAny_bind (wpAny_pyIter_zip (up _ _ hz) ?_)
    refine wpAny_bind (wpAny_holding (gz_hint hT1 ?_))
    simp only [Bool.true_or, if_true]
    refine wpAny_bind (wpAny_rule ?_)
    refine wpAny_bind ?_
    show wpAny _ _ (updateSeq s.heap.objs.size (·.push .none) >>= fun _ => updateSeq s.heap.objs.size (·.pop)) _ _ _
    refine wpAny_bind (wpAny_updateSeq hS₁ rfl ?_)
    have hS₂ := Heap.get?_update_self (Obj.mapSeq (·.push Value.none)) hS₁ rfl
    refine wpAny_updateSeq (hz := by seq_fits) hS₂ rfl ?_
    have hS₃ := Heap.get?_update_self (Obj.mapSeq (·.pop)) hS₂ rfl
    have up2 : ∀ b o, b < s.heap.objs.size → s.heap.get? b = some o → (((s.heap.push { cls := .type "list", data := .seq ([] : List Value).toArray }).update s.heap.objs.size (Obj.mapSeq (·.push Value.none))).update s.heap.objs.size (Obj.mapSeq (·.pop))).get? b = some o := fun b o hb e => by
      have hb : s.heap.objs.size ≠ b := Nat.ne_of_gt hb
      exact (Heap.get?_update_other _ _ hb).trans ((Heap.get?_update_other _ _ hb).trans (up b o e))
    refine wpAny_pure ⟨plainId_quiet PySem.F.plain_extend_loop _, ?_⟩
    refine gz_loop (s := s) (h₁ := s.heap) (A := A) hh D ⟨Nat.ne_of_gt lz, Nat.ne_of_gt lTI, Nat.ne_of_gt lTO, Nat.ne_of_gt li1, Nat.ne_of_gt li2, Nat.ne_of_gt ll1, Nat.ne_of_gt ll2⟩ hn (.ref s.heap.objs.size) (fun h' tk acc c as hk hS' hl hG hacc => ?_)
      (min xs.size ys.size) 0 _ _ _ #[] [] (by omega) (Nat.zero_le _) ⟨up2 _ _ lTI hTI, h1.at fun o e => up2 _ _ li1 e, h2.at fun o e => up2 _ _ li2 e, hl1.at fun o e => up2 _ _ ll1 e, hl2.at fun o e => up2 _ _ ll2 e, ⟨_, up2 _ _ lTO hTO⟩, .inl ⟨up2 _ _ lz hz, _, _, up2 _ _ lTO hTO⟩⟩
      (fun b o h1 _ _ _ _ e => up2 b o (Heap.lt_size e) e) hS₃ rfl rfl ⟨⟨List.Pairwise.nil, fun a ha => nomatch ha⟩, fun j a hj => by simp at hj⟩
    show wpAny _ A (load s.heap.objs.size >>= _) _ _ _
    refine wpAny_bind (wpAny_load hS' ?_)
    refine wpAny_pure ?_
    show R acc.toList _
    rw [hacc]
    refine h h' tk as (fun b o q1 q2 q3 q4 e => hk b o (Nat.ne_of_lt (Heap.lt_size e)) q1 q2 q3 q4 e) hl hG.1.1 (fun a ha => (hG.1.2 a ha).1) fun j a hj => ?_
    obtain ⟨_, _, _, _, _, x, y, hx, hy, hp⟩ := hG.2 j a hj
    exact ⟨x, y, hx, hy, hp⟩
  unfold PySem.W.StarOf notIterableAtAll
  exact wpAny_bind (wpAny_specialOf hT PySem.F.slot_zip_iter.lookup (wpAny_pure ⟨rfl, cz⟩))
end
end G

set_option Elab.async false
set_option linter.all false
set_option maxRecDepth 100000
set_option maxHeartbeats 4000000
namespace G
open PySem PySem.Spec PyProof.Rows L2
def pairUp (xs ys : List D) : List D := List.zipWith (fun d e => D.tup [d, e]) xs ys
section
variable {X : Cx} {T : Tb} {W : Wi}
theorem lay_pairs {pins : List (Addr × Obj)} {σ : Sg} {H0 : Hp} {st0 : Shared} {h' : Heap} {tk : Nat} {s : S} {G : Wd} (I0 : Inv X pins σ H0 st0) : ∀ (as : List Addr) (xs ys : List V) (us ws : List Value) (ds es : List D) (H : Hp),
    Inv X pins σ H { st0 with heap := h', toks := tk } → StR X.w X.K T σ H G s → RepL X.w X.K H G xs ds → RepL X.w X.K H G ys es → Vals xs us → Vals ys ws → as.length = min us.length ws.length →
    (∀ (j : Nat) (a : Addr), as[j]? = some a → ∃ x y, us[j]? = some x ∧ ws[j]? = some y ∧ IsPair h' a x y) → as.Pairwise (· < ·) → (∀ a ∈ as, st0.heap.objs.size ≤ a ∧ H a = none) →
    ∃ H', Inv X pins σ H' { st0 with heap := h', toks := tk } ∧ Stp σ H G s σ H' G s ∧ StR X.w X.K T σ H' G s ∧ RepL X.w X.K H' G (as.map V.ref) (pairUp ds es)
  | [], xs, ys, us, ws, ds, es, H, I, J, r1, r2, v1, v2, hl, hp, hw, hf => by
    refine ⟨H, I, Stp.refl, J, ?_⟩
    have e : pairUp ds es = [] := by
      have l1 := r1.length
      have l2 := r2.length
      have l3 := v1.length
      have l4 := v2.length
      simp only [List.length_nil] at hl
      have : ds.length = 0 ∨ es.length = 0 := by omega
      unfold pairUp
      rcases this with q | q
      · rw [List.length_eq_zero_iff.mp q]; rfl
      · rw [List.length_eq_zero_iff.mp q, List.zipWith_nil_right]
    rw [e]
    exact .nil
  | a :: as, xs, ys, us, ws, ds, es, H, I, J, r1, r2, v1, v2, hl, hp, hw, hf => by
    cases v1 with
    | nil => simp at hl
    | @cons x u xs us rx v1 =>
    cases v2 with
    | nil => simp at hl
    | @cons y w ys ws ry v2 =>
    cases r1 with
    | @cons _ d _ ds rd r1 =>
    cases r2 with
    | @cons _ e _ es re r2 =>
    obtain ⟨x', y', hx, hy, hip⟩ := hp 0 a rfl
    cases hx
    cases hy
    obtain ⟨ha, hna⟩ := hf a List.mem_cons_self
    have fp := I0.fpOk (H' := H) ha hna
    have I1 : Inv X pins σ (upd H a (.tup [x, y])) { st0 with heap := h', toks := tk } := I.take (t' := tk) (fun b ob _ q => q) fp ⟨by simp [sizeLine], [u, w], .cons rx (.cons ry .nil), ⟨_, hip, rfl, _, rfl⟩⟩
    have b1 : Stp σ H G s σ (upd H a (.tup [x, y])) G s := Stp.fresh0 hna
    have J1 := J.fresh0 (o := .tup [x, y]) hna
    have k := J.kp b1
    rw [List.pairwise_cons] at hw
    obtain ⟨H', I2, b2, J2, r3⟩ := lay_pairs I0 as xs ys us ws ds es (upd H a (.tup [x, y])) I1 J1 (r1.kp k) (r2.kp k) v1 v2 (by simp only [List.length_cons] at hl; omega) (fun j b hb => hp (j + 1) b (by simpa using hb)) hw.2 (fun b hb => by
      have nb : b ≠ a := Nat.ne_of_gt (hw.1 b hb)
      exact ⟨(hf b (List.mem_cons_of_mem _ hb)).1, by rw [upd_ne nb]; exact (hf b (List.mem_cons_of_mem _ hb)).2⟩)
    refine ⟨H', I2, b1.trans b2, J2, .cons ?_ r3⟩
    have k2 := J1.kp b2
    exact .tup (vs := [x, y]) (.inl (k2.tp a _ (.inl upd_same))) (.cons ((rd.kp k).kp k2) (.cons ((re.kp k).kp k2) .nil))
def zipA (f : Ax) : Ax := fun s => (f s).bind fun ds s => match ds with
  | [d, e] => (match coList (content s d), coList (content s e) with
    | some xs, some ys => .ok (pairUp xs ys) s
    | _, _ => .bad)
  | _ => .bad
/-- *zip(a, b) alone -/
theorem sl_zip {a b : Expr} {f : Ax} {p pos sp : Pos} (hg : Gl X "zip") (hm : X.mg "zip" = none) (hc : X.calm = true) (ha : SLO X T W [a, b] f)
    (hs : starEach [a, b] X.env = (false, eval a X.env) :: starEach [b] X.env := by rfl) (hpl : (backTo pos (starEach [b] X.env)).any (·.1) = false := by rfl) (hst : starEach [.Starred (.Call (.Name "zip" p) [a, b] [] pos) sp] X.env = (true, eval (.Call (.Name "zip" p) [a, b] [] pos) X.env) :: starEach [] X.env := by rfl) :
    SL X T W [.Starred (.Call (.Name "zip" p) [a, b] [] pos) sp] (zipA f) := by
  refine ⟨fun pos' pins st σ H Q I ⟨G, s, J, q⟩ => ?_⟩
  refine PySem.W.items_star ?_ hst
  have hq : tLO X.w X.K T W f σ H fun vs H1 => ∃ (l1 l2 : Addr) (xs ys : List V) (ds es : List D) (G1 : Wd) (s1 : S), vs = [.ref l1, .ref l2] ∧ H1 l1 = some (.lst xs) ∧ H1 l2 = some (.lst ys) ∧ RepL X.w X.K H1 G1 xs ds ∧ RepL X.w X.K H1 G1 ys es ∧ Stp σ H G s σ H1 G1 s1 ∧ StR X.w X.K T σ H1 G1 s1 ∧ PL X.w X.K T Q σ H G s (pairUp ds es) s1 := by
    refine tLO_bind J q fun ds s1 H1 G1 vs b1 J1 r1 q1 => ?_
    match ds, r1, q1 with
    | [], _, q1 => exact q1.elim
    | [_], _, q1 => exact q1.elim
    | _ :: _ :: _ :: _, _, q1 => exact q1.elim
    | [d, e], r1, q1 =>
      obtain ⟨v, u, rfl, ra, rb⟩ := r1.two
      cases c1 : content s1 d with
      | none => simp only [c1, coList] at q1; exact q1.elim
      | some co =>
        cases c2 : content s1 e with
        | none => simp only [c1, c2, coList] at q1; cases co <;> exact q1.elim
        | some co2 =>
          cases co with
          | L xs =>
            cases co2 with
            | L ys =>
              simp only [c1, c2, coList] at q1
              obtain ⟨l1, vs, rfl, h1, h2⟩ := content_L J1 ra c1
              obtain ⟨l2, ws, rfl, h3, h4⟩ := content_L J1 rb c2
              exact ⟨l1, l2, vs, ws, xs, ys, G1, s1, rfl, h1, h3, h2, h4, b1, J1, q1⟩
            | _ => simp only [c1, c2, coList] at q1; exact q1.elim
          | _ => simp only [c1, c2, coList] at q1; exact q1.elim
  refine Call_ (ld_blt I hg hm PyProof.Rows.boot_zip (PyProof.Rows.callWith_type1 (thn (ha.run pos pins st σ H _ I hq) fun us s1 ⟨vs, H1, I1, r1, l1, l2, xs, ys, ds, es, G1, s2, ev, h1, h2, rd, re, b1, J1, q1⟩ => ?_) hs hpl))
  subst ev
  obtain ⟨u1, u2, rfl, ru1, ru2⟩ := r1.two
  cases ru1
  cases ru2
  obtain ⟨its, rv, p1, z1⟩ := I1.list (SqL.of h1)
  obtain ⟨its2, rv2, p2, z2⟩ := I1.list (SqL.of h2)
  have la : l1 < s1.heap.objs.size := p1.lt
  have lb : l2 < s1.heap.objs.size := p2.lt
  refine call_zip_2 p1.isList p2.isList fun h' hz hTI hTO hi1 hi2 hsz hk => ?_
  have I2 : Inv X pins σ H1 { s1 with heap := h' } := I1.kept (t' := s1.toks) hk
  have up : ∀ {b : Addr}, b < s1.heap.objs.size → ∀ o, s1.heap.get? b = some o → h'.get? b = some o := fun {b} _ o e => hk b o e
  refine gz_star (s := { s1 with heap := h' }) (I2.ok.hd hc) (PySem.W.ktu_apart s1.heap.objs.size l1 l2 la lb) hz hTI hTO hi1 hi2 (p1.isList.at fun o e => hk _ o e) (p2.isList.at fun o e => hk _ o e) (by
    have := rv.length
    have := rd.length
    simp only [List.size_toArray]
    omega) fun h2 tk as kp hl hw hlo hpr => ?_
  have kk : ∀ b o, s1.heap.get? b = some o → h2.get? b = some o := fun b o e => by
    have lt := Heap.lt_size e
    exact kp b o (Nat.ne_of_lt (Nat.lt_of_lt_of_le lt (Nat.le_add_right _ 4))) (Nat.ne_of_lt (Nat.lt_of_lt_of_le lt (Nat.le_add_right _ 3))) (Nat.ne_of_lt lt) (Nat.ne_of_lt (Nat.lt_of_lt_of_le lt (Nat.le_add_right _ 1))) (hk b o e)
  have I3 : Inv X pins σ H1 { s1 with heap := h2, toks := tk } := I1.kept (t' := tk) kk
  have hge : s1.heap.objs.size ≤ h'.objs.size := by rw [hsz]; exact Nat.le_add_right _ _
  obtain ⟨H', I4, b4, J4, r4⟩ := lay_pairs (T := T) I1 as xs ys its its2 ds es H1 I3 J1 rd re rv rv2 (by simpa using hl) (fun j a hj => by
    obtain ⟨x, y, hx, hy, hp⟩ := hpr j a hj
    exact ⟨x, y, by simpa using hx, by simpa using hy, hp⟩) hw fun a ha => ⟨Nat.le_trans hge (hlo a ha), I1.hok.fresh (Nat.le_trans hge (hlo a ha))⟩
  refine wpAny_pure ?_
  have rvs : ∀ as : List Addr, Vals (as.map V.ref) (as.map Value.ref) := fun as => by
    induction as with
    | nil => exact .nil
    | cons a r ih => exact .cons rfl ih
  refine ⟨as.map V.ref, H', I4, by simpa using rvs as, ?_⟩
  exact q1 H' G1 (as.map V.ref) (b1.trans b4) J4 r4
end
end G

set_option Elab.async false
set_option linter.all false
set_option maxRecDepth 100000
set_option maxHeartbeats 4000000
namespace G
open PySem PySem.Spec PyProof.Rows L2
section
variable {X : Cx} {T : Tb} {W : Wi} {pos p q : Pos}
/-! ### xs[::-1] -/
def revF (f : Ex) : Fx := fun s => (f s).bind fun d s => match coList (content s d) with
  | some xs => .ok (.L xs.reverse) s
  | none => .bad
theorem RepL.rev {w : World} {K : PySem.W.Frag} {H : Hp} {G : Wd} : ∀ {vs : List V} {ds : List D}, RepL w K H G vs ds → RepL w K H G vs.reverse ds.reverse
  | _, _, .nil => .nil
  | _, _, .cons r s => by
    rw [List.reverse_cons, List.reverse_cons]
    exact (RepL.rev s).append (.cons r .nil)
theorem sf_rev {e : Expr} {f : Ex} {k : Nat} {p1 p2 p3 pos : Pos} (h : SO X T W e f) : SF X T W (.Subscript e (.Slice none none (some (.UnaryOp .USub (.Constant (.int 1) k p1) p2)) p3) pos) (revF f) := by
  refine PE.imp (pe_revL h) fun σ H Q ⟨G, s, I, q⟩ => ?_
  refine tO_bind I q fun d s1 H1 G1 v b J r q => ?_
  cases c : content s1 d with
  | none => simp only [c, coList] at q; exact q.elim
  | some co =>
    cases co with
    | L xs =>
      simp only [c, coList] at q
      obtain ⟨a, vs, rfl, h1, h2⟩ := content_L J r c
      exact ⟨a, vs, rfl, SqL.of h1, fun l hl => pf_new (c := .L xs.reverse) I b J hl (fun k => ⟨vs.reverse, upd_same, (h2.kp k).rev⟩) q⟩
    | _ => simp only [c, coList] at q; exact q.elim
/-! ### one of two readings, by the state -/
def altE (p : S → Bool) (f g : Ex) : Ex := fun s => if p s then f s else g s
theorem sv_alt {e : Expr} {f g : Ex} (p : S → Bool) (h1 : SV X T W e f) (h2 : SV X T W e g) : SV X T W e (altE p f g) := by
  refine ⟨fun pins st σ H Q I ⟨G, s, J, q⟩ => ?_⟩
  unfold altE at q
  cases c : p s with
  | true => rw [c, if_pos rfl] at q; exact h1.run pins st σ H Q I ⟨G, s, J, q⟩
  | false => rw [c, if_neg Bool.false_ne_true] at q; exact h2.run pins st σ H Q I ⟨G, s, J, q⟩
/-- the class of what f gives -/
def clsIs (c : Nat) (f : Ex) (s : S) : Bool := match f s with
  | .ok d s' => (match insOf s' d with
    | some (k, _) => k == c
    | none => false)
  | _ => false
/-! ### isinstance(x, an own class) -/
def ansC (n c : Nat) : Ty → Option Bool
  | .ins k => if k < n then some (k == c) else none
  | _ => some false
/-- what the head says of a class for isinstance -/
def ikB (cs : List Str) (c : Nat) (K : PySem.W.Frag) : Bool :=
  ((["NoneType", "bool", "int", "str", "list", "tuple", "dict"] : List String).all fun n => decide (PySem.W.kitOne K (.type n) (.ref (He.ga K (cs.getD c ""))) = some false)) &&
  ((List.range cs.length).all fun k => decide (PySem.W.kitOne K (.ref (He.ga K (cs.getD k ""))) (.ref (He.ga K (cs.getD c ""))) = some (k == c)))
theorem ikB_ok {K : PySem.W.Frag} {cs : List Str} {c : Nat} (h : ikB cs c K = true) (hT : T.cls = fun c => He.ga K (cs.getD c "")) : ∀ t b, ansC cs.length c t = some b → PySem.W.kitOne K (tyVal T t) (.ref (He.ga K (cs.getD c ""))) = some b := by
  unfold ikB at h
  rw [Bool.and_eq_true, List.all_eq_true, List.all_eq_true] at h
  obtain ⟨h1, h2⟩ := h
  have k := fun n hn => of_decide_eq_true (h1 n hn)
  intro t b e
  cases t with
  | ins m =>
    simp only [ansC] at e
    split at e
    · rename_i hm
      cases e
      have := of_decide_eq_true (h2 m (List.mem_range.mpr hm))
      simp only [tyVal, hT]
      exact this
    · cases e
  | _ => cases e; exact k _ (by simp)
theorem sv_isC {e : Expr} {f : Ex} {c n : Nat} {x : Str} (ki : Ki X.K T) (hans : ∀ t b, ansC n c t = some b → PySem.W.kitOne X.K (tyVal T t) (.ref (He.ga X.K x)) = some b) (he : SO X T W e f) (hg : Gl X "isinstance") (hm : X.mg "isinstance" = none) (hg2 : Gl X x) (hm2 : X.mg x = some (.ref (He.ga X.K x)))
    (h1 : starEach [e, .Name x q] X.env = (false, eval e X.env) :: starEach [.Name x q] X.env := by rfl) (h2 : starEach [.Name x q] X.env = (false, eval (.Name x q) X.env) :: starEach [] X.env := by rfl) (hpl : (backTo pos (starEach [.Name x q] X.env)).any (·.1) = false := by rfl) (hd : (x == ("__debug__" : Str)) = false := by decide) :
    SV X T W (.Call (.Name "isinstance" p) [e, .Name x q] [] pos) (isiE (ansC n c) f) :=
  sv_isi ki (.own (He.ga X.K x)) hans he (pe_glob hg2 hm2 rfl hd) hg hm h1 h2 hpl
/-! ### a default that is () -/
def etB (p : PySem.W.Frag → Addr) (K : PySem.W.Frag) : Bool := match K.lookup (p K) with
  | some ⟨.type c, _, .seq its _, _⟩ => decide (c = "tuple") && its.toList.isEmpty
  | _ => false
theorem etB_ok {K : PySem.W.Frag} {p : PySem.W.Frag → Addr} (h : etB p K = true) (H : Hp) : SqT K H (p K) [] := by
  unfold etB at h
  cases q : K.lookup (p K) with
  | none => rw [q] at h; cases h
  | some o =>
    obtain ⟨oc, od, dt, osl⟩ := o
    rw [q] at h
    cases oc with
    | type c =>
      cases dt with
      | seq its n =>
        simp only [Bool.and_eq_true, decide_eq_true_eq] at h
        obtain ⟨rfl, h2⟩ := h
        have h2 : its.toList = [] := List.isEmpty_iff.mp h2
        refine .inr ⟨_, its, n, q, rfl, rfl, ?_, ?_⟩
        · rw [← Array.length_toList, h2]; exact Nat.zero_le _
        · rw [h2]; exact .nil
      | _ => cases h
    | _ => cases h
theorem Dfl.etup {w : World} {K : PySem.W.Frag} {p : PySem.W.Frag → Addr} (h : etB p K = true) : Dfl w K [.ref (p K)] [.tup []] := fun H G => .cons (.tup (etB_ok h H) .nil) .nil
/-! ### what is walked over: list or tuple -/
def altI (p : S → Bool) (f g : Ix) : Ix := fun s => if p s then f s else g s
def isTp (f : Ex) (s : S) : Bool := match f s with
  | .ok (.tup _) _ => true
  | _ => false
def ltI (f : Ex) : Ix := altI (isTp f) (tupI f) (seqI f)
theorem si_alt {tg iter : Expr} {f g : Ix} (p : S → Bool) (h1 : SI X T W tg iter f) (h2 : SI X T W tg iter g) : SI X T W tg iter (altI p f g) := by
  have key : ∀ σ H R, tI X.w X.K T W (altI p f g) σ H R → tI X.w X.K T W f σ H R ∨ tI X.w X.K T W g σ H R := fun σ H R ⟨G, s, J, q⟩ => by
    unfold altI at q
    cases c : p s with
    | true => rw [c, if_pos rfl] at q; exact .inl ⟨G, s, J, q⟩
    | false => rw [c, if_neg Bool.false_ne_true] at q; exact .inr ⟨G, s, J, q⟩
  refine ⟨fun pins st σ H R I h => ?_⟩
  rcases key σ H R h with h | h
  · exact h1.run pins st σ H R I h
  · exact h2.run pins st σ H R I h
theorem si_lt {tg e : Expr} {f : Ex} (h : SV X T W e f) : SI X T W tg e (ltI f) := si_alt _ (si_tup h) (si_seq h)
end
end G

set_option Elab.async false
set_option linter.all false
set_option maxRecDepth 100000
set_option maxHeartbeats 4000000
namespace G
open PySem PySem.Spec PyProof.Rows L2
/-! ### a keyword-only parameter with a whole number as its default -/
def kwB (f : PySem.W.Frag → Addr) (nm : Str) (z : Int) (K : PySem.W.Frag) : Bool := match K.lookup (f K) with
  | some ⟨_, _, .func fd, _⟩ => (match fd.kwdefaults with
    | .ref D => (match PySem.W.nsIn K D nm with
      | some (some (.int i _)) => decide (i = z)
      | _ => false)
    | _ => false)
  | _ => false
theorem kwd_up {K : PySem.W.Frag} {x qual nm : Str} {z : Int} {params : Arguments} {body : List Stmt} {scope : Scope} {dvs : List V} {loc : PySem.W.Frag → Addr} {fd : FuncData} (F : FunD K x qual params body scope dvs [] (loc K) fd) (h : kwB loc nm z K = true) : FunD K x qual params body scope dvs [(nm, .int z)] (loc K) fd := by
  obtain ⟨oc, od, dV, kV, doc, pm, an, cdv, ct, osl, rfl, lk, hcd, hD, hK⟩ := F.ex
  refine ⟨⟨oc, od, dV, kV, doc, pm, an, cdv, ct, osl, rfl, lk, hcd, hD, .inr ?_⟩, F.kp⟩
  unfold kwB at h
  rw [lk] at h
  dsimp only at h
  split at h
  · rename_i D
    cases e : PySem.W.nsIn K D nm with
    | none => rw [e] at h; cases h
    | some o =>
      rw [e] at h
      cases o with
      | none => cases h
      | some u =>
        cases u with
        | int i t =>
          have h : decide (i = z) = true := h
          have hi := of_decide_eq_true h
          subst hi
          refine ⟨D, rfl, fun q hq => ?_⟩
          cases List.mem_singleton.mp hq
          exact ⟨_, e, t, rfl⟩
        | _ => cases h
  · cases h
theorem kwd_dn {K : PySem.W.Frag} {x qual : Str} {kws : List (Str × V)} {params : Arguments} {body : List Stmt} {scope : Scope} {dvs : List V} {f : Addr} {fd : FuncData} (F : FunD K x qual params body scope dvs kws f fd) : FunD K x qual params body scope dvs [] f fd := by
  obtain ⟨oc, od, dV, kV, doc, pm, an, cdv, ct, osl, e, lk, hcd, hD, hK⟩ := F.ex
  exact ⟨⟨oc, od, dV, kV, doc, pm, an, cdv, ct, osl, e, lk, hcd, hD, .inl rfl⟩, F.kp⟩
/-- called without it -/
theorem binds_kw {K : PySem.W.Frag} {x qual nm : Str} {z : Int} {params : Arguments} {body : List Stmt} {scope : Scope} {f : Addr} {fd : FuncData} {ps : List Str} {n : Nat} (F : FunD K x qual params body scope [] [(nm, .int z)] f fd) (hl : n + 1 = ps.length)
    (h : ∀ (D : Addr) (doc pm : Value) (an : Option Addr) (cdv ct : Value) (us ks : List Value), us.length = n → ks.length = 1 → KwChain D ([nm].zip ks) (bindArgs (PySem.W.fnOf x qual params body scope .none (.ref D) doc pm an cdv ct) ⟨us, []⟩) (ps.zip (us ++ ks))) : ∃ ds, Vals [V.int z] ds ∧ L2.Binds K fd ps ds :=
  F.binds0 n (by simp) hl h
theorem Dfl.int1 {w : World} {K : PySem.W.Frag} {z : Int} : Dfl w K [.int z] [.int z] := fun H G => .cons (.int _) .nil
@[simp] theorem q_methKE {c n j : Nat} {F : Fn} {gD : List D → List D → List D} {fo : Ex} {fs ks : Ax} {s : S} : methKE c n j F gD fo fs ks s = (fo s).bind fun d s => match insOf s d with
  | some (c', _) => if c' = c then (fs s).bind fun ds s => (ks s).bind fun es s => if ds.length = n ∧ es.length = j then callF F (gD (d :: ds) es) s else .bad else .bad
  | none => .bad := by rfl
end G

set_option Elab.async false
set_option linter.all false
set_option maxRecDepth 100000
set_option maxHeartbeats 4000000
namespace G
open PySem PySem.Spec PyProof.Rows L2
open PySem.W (dataLt)
/-! ### a < b, a > b of data -/
section
variable {X : Cx} {T : Tb} {W : Wi}
def gtGB (d e : D) : Option Bool := match cmpB (fun i j => decide (j < i)) (fun x y => ltN y x) d e with
  | some b => some b
  | none => if datsOk [d, e] then some (dataLt (py e) (py d)) else none
def gtGD : D → D → Ex := fun d e s => truR s (gtGB d e)
theorem truths_gtG : Truths gtGD := truths_truR (f := fun _ d e => gtGB d e)
def ltGB (d e : D) : Option Bool := match cmpB (fun i j => decide (i < j)) ltN d e with
  | some b => some b
  | none => if datsOk [d, e] then some (dataLt (py d) (py e)) else none
def ltGD : D → D → Ex := fun d e s => truR s (ltGB d e)
theorem truths_ltG : Truths ltGD := truths_truR (f := fun _ d e => ltGB d e)
theorem dats_two {d e : D} (h : datsOk [d, e] = true) : dat 50 d = true ∧ dat 50 e = true ∧ PySem.W.alike (py d) (py e) = true ∧ py d ≠ .none ∧ (py d).depth ≤ 50 := by
  obtain ⟨o1, o2, o3, o4⟩ := datsOk_ok h
  have da := List.all_eq_true.mp o1 d List.mem_cons_self
  have db := List.all_eq_true.mp o1 e (List.mem_cons_of_mem _ List.mem_cons_self)
  have m1 : py d ∈ pys [d, e] := by simp [pys]
  have m2 : py e ∈ pys [d, e] := by simp [pys]
  exact ⟨da, db, o2.1 _ m1 _ m2, o2.2 _ m1, (dat_canLay 50 d da).2⟩
theorem b2_gtG (hu : X.A.units + 64 < cLine) : B2 X T W (compareOp .Gt) gtGD := by
  intro pins st σ H x y v u G s d e Q I rx ry J r1 r2 q
  cases h : cmpB (fun i j => decide (j < i)) (fun x y => ltN y x) d e with
  | some b =>
    refine b2_gt (W := W) pins st σ H x y v u G s d e Q I rx ry J r1 r2 ?_
    unfold gtD cmpD
    rw [h]
    unfold gtGD gtGB at q
    rw [h] at q
    exact q
  | none =>
    unfold gtGD gtGB at q
    rw [h] at q
    by_cases ok : datsOk [d, e] = true
    · simp only [ok, if_true] at q
      obtain ⟨da, db, al, nn, dp⟩ := dats_two ok
      have p1 : Rep X.w X.K H G x d := by cases d <;> first | exact r1 | (cases da)
      have p2 : Rep X.w X.K H G y e := by cases e <;> first | exact r2 | (cases db)
      obtain ⟨as, k1⟩ := Dp.reads I _ _ _ (Rep.dp 50 p1 da) rx
      obtain ⟨bs, k2⟩ := Dp.reads I _ _ _ (Rep.dp 50 p2 db) ry
      have q' : Q (.bl (dataLt (py e) (py d))) H := q _ _ _ Stp.refl J (.bl _)
      exact PySem.W.rcGt_alike (py d) (py e) X.A st v u as bs k1 k2 al nn (by have := Nat.min_le_left (py d).depth (py e).depth; omega) X.prog X.w _ _ ⟨.bl _, H, I, rfl, q'⟩
    · simp only [ok] at q
      exact q.elim
theorem b2_ltG (hu : X.A.units + 64 < cLine) : B2 X T W (compareOp .Lt) ltGD := by
  intro pins st σ H x y v u G s d e Q I rx ry J r1 r2 q
  cases h : cmpB (fun i j => decide (i < j)) ltN d e with
  | some b =>
    refine b2_lt (W := W) pins st σ H x y v u G s d e Q I rx ry J r1 r2 ?_
    unfold ltD cmpD
    rw [h]
    unfold ltGD ltGB at q
    rw [h] at q
    exact q
  | none =>
    unfold ltGD ltGB at q
    rw [h] at q
    by_cases ok : datsOk [d, e] = true
    · simp only [ok, if_true] at q
      obtain ⟨da, db, al, nn, dp⟩ := dats_two ok
      have p1 : Rep X.w X.K H G x d := by cases d <;> first | exact r1 | (cases da)
      have p2 : Rep X.w X.K H G y e := by cases e <;> first | exact r2 | (cases db)
      obtain ⟨as, k1⟩ := Dp.reads I _ _ _ (Rep.dp 50 p1 da) rx
      obtain ⟨bs, k2⟩ := Dp.reads I _ _ _ (Rep.dp 50 p2 db) ry
      have q' : Q (.bl (dataLt (py d) (py e))) H := q _ _ _ Stp.refl J (.bl _)
      exact PySem.W.rcLt_alike (py d) (py e) X.A st v u as bs k1 k2 al nn (by have := Nat.min_le_left (py d).depth (py e).depth; omega) X.prog X.w _ _ ⟨.bl _, H, I, rfl, q'⟩
    · simp only [ok] at q
      exact q.elim
/-- a or b, whatever they are -/
def orGV (f g : Ex) : Ex := fun s => (f s).bind fun d s => match truthD s d with
  | some true => .ok d s
  | some false => g s
  | none => .bad
theorem sv_orG {a b : Expr} {rest : List Expr} {f g : Ex} {pos : Pos} (h : SV X T W a f) (hr : SV X T W (.BoolOp .Or (b :: rest) pos) g) : SV X T W (.BoolOp .Or (a :: b :: rest) pos) (orGV f g) := by
  refine PE.imp (pe_orT h hr) fun σ H Q ⟨G, s, I, q⟩ => ?_
  refine tV_bind I q fun d s1 H1 G1 v b1 J r q => ?_
  cases e : truthD s1 d with
  | none => rw [e] at q; exact q.elim
  | some c =>
    rw [e] at q
    refine ⟨c, truth_ok J (RepT.of r) e, ?_⟩
    cases c with
    | true => exact q _ _ _ b1 J r
    | false => exact ⟨G1, s1, J, hV b1 q⟩
end
@[simp] theorem q_orGV {f g : Ex} {s : S} : orGV f g s = (f s).bind fun d s => match truthD s d with
  | some true => .ok d s
  | some false => g s
  | none => .bad := by rfl
@[simp] theorem q_gtGI {i j : Int} {s : S} : gtGD (.int i) (.int j) s = .ok (.bl (decide (j < i))) s := by rfl
@[simp] theorem q_ltGI {i j : Int} {s : S} : ltGD (.int i) (.int j) s = .ok (.bl (decide (i < j))) s := by rfl
end G

set_option Elab.async false
set_option linter.all false
set_option maxRecDepth 100000
set_option maxHeartbeats 4000000
namespace G
open PySem PySem.Spec PyProof.Rows L2
/-! ### d == e of dicts whose keys are tuples -/
section
variable {prog : Program} {w : World} {A : Around} {E : Value → Shared → Prop} {t : Shared}
theorem forIn_stop {M : Model} {body : Nat → (Option Bool × Unit) → Sem (ForInStep (Option Bool × Unit))} {n : Nat} {f : Nat → Bool}
    (hs : ∀ i, i < n → ∀ R : ForInStep (Option Bool × Unit) → Shared → Prop, R (if f i then .yield (none, ()) else .done (some false, ())) t → wpAny M A (body i (none, ())) R E t) :
    ∀ (m i : Nat), i + m = n → ∀ R : Option Bool × Unit → Shared → Prop, R (if (List.range' i m).all f then none else some false, ()) t → wpAny M A (forIn (List.range' i m) ((none, ()) : Option Bool × Unit) body) R E t := by
  intro m
  induction m with
  | zero => intro i _ R h; exact wpAny_pure h
  | succ m ih =>
    intro i hi R h
    rw [List.range'_succ, List.forIn_cons]
    refine wpAny_bind (hs i (by omega) _ ?_)
    rw [List.range'_succ, List.all_cons] at h
    cases hf : f i with
    | true =>
      rw [hf, Bool.true_and] at h
      simp only [if_true]
      exact ih (i + 1) (by omega) R h
    | false =>
      rw [hf, Bool.false_and] at h
      simp only [Bool.false_eq_true, if_false] at h ⊢
      exact wpAny_pure h
theorem samePairs_H {K : Type} [DecidableEq K] {knd : HeapKind prog w K} {nm : String} {a b : Addr} {xs ys : List (K × Addr × Value)} {f : Nat → Bool} {Q : Bool → Shared → Prop} (ha : (a == sysModules) = false) (hb : (b == sysModules) = false) (hr : knd.room A) (da : t.heap.DictOfH knd a xs) (db : t.heap.DictOfH knd b ys)
    (hf : ∀ (i : Nat) (x : K × Addr × Value), xs[i]? = some x → (∀ (j : Nat) (p : Addr × Value), ys[j]? ≠ some (x.1, p)) → f i = false) (hg : ∀ (i : Nat) (x : K × Addr × Value), xs[i]? = some x → ∀ (j : Nat) (p : Addr × Value), ys[j]? = some (x.1, p) → SeqAt.EqAt A t x.2.2 p.2 (f i)) (h : Q (decide (xs.length = ys.length) && (List.range' 0 xs.length).all f) t) :
    wpAny (model prog w) A (Builtin.Dict.samePairs nm a b) Q E t := by
  obtain ⟨oa, esa, epa, e1, e2, e3, e4, e5, e6⟩ := da
  obtain ⟨ob, esb, epb, k1, k2, k3, k4, k5, k6⟩ := db
  have la : esa.size = xs.length := by rw [← Array.length_toList, e4, List.length_map]
  have lb : esb.size = ys.length := by rw [← Array.length_toList, k4, List.length_map]
  unfold Builtin.Dict.samePairs Builtin.Dict.showsAll
  rw [if_neg (by rw [ha]; exact Bool.false_ne_true), if_neg (by rw [hb]; exact Bool.false_ne_true)]
  refine wpAny_bind (wpAny_pure (wpAny_bind (wpAny_pure ?_)))
  refine wpAny_bind (wpAny_dictEntries e1 e3 ?_)
  dsimp only
  refine wpAny_bind (wpAny_dictEntries k1 k3 ?_)
  by_cases z : xs.length = ys.length
  · rw [if_neg (by rw [la, lb, z]; simp)]
    refine wpAny_bind (wpAny_dictEpoch e1 e3 ?_)
    refine wpAny_bind ?_
    rw [Std.Legacy.Range.forIn_eq_forIn_range']
    simp only [Std.Legacy.Range.size, Nat.sub_zero, Nat.add_sub_cancel, Nat.div_one]
    rw [la]
    rw [decide_eq_true z, Bool.true_and] at h
    refine forIn_stop (f := f) (n := xs.length) ?_ xs.length 0 (by omega) _ ?_
    · intro i hi R hR
      have hx : xs[i]? = some xs[i] := List.getElem?_eq_getElem hi
      have hm : xs[i] ∈ xs := List.getElem_mem hi
      have hae : esa[i]? = some (entryOfKey knd xs[i]) := by
        rw [← Array.getElem?_toList, e4, List.getElem?_map, hx]; rfl
      refine wpAny_bind (wpAny_dictEntries e1 e3 ?_)
      rw [hae]
      dsimp only [entryOfKey]
      have fin : ∀ {bb : Bool}, f i = bb → wpAny (model prog w) A (if (!bb) = true then pure (ForInStep.done (some false, ())) else do
                    let __do_lift ← dictEpoch a
                    if (__do_lift != epa) = true then do
                        unsupported (toString nm ++ toString ":changed-during-callback")
                        pure (ForInStep.yield (none, ()))
                      else pure (ForInStep.yield (none, ()))) R E t := fun {bb} hb => by
        rw [hb] at hR
        cases bb with
        | false => exact wpAny_pure hR
        | true =>
          rw [if_neg (by simp)]
          refine wpAny_bind (wpAny_dictEpoch e1 e3 ?_)
          rw [if_neg (by simp)]
          exact wpAny_pure hR
      refine wpAny_bind (wpAny_holding (wpAny_bind (wpAny_dictFind_heap hr (e5 _ hm) k1 k3 k4 k5 k6 (fun hn => ?_) fun j p hj => ?_)))
      · exact wpAny_pure (fin (hf i _ hx hn))
      · have hbe : esb[j]? = some (entryOfKey knd (xs[i].1, p)) := by
          rw [← Array.getElem?_toList, k4, List.getElem?_map, hj]; rfl
        dsimp only
        refine wpAny_bind (wpAny_dictEntries k1 k3 ?_)
        rw [hbe]
        exact wpAny_holding (hg i _ hx j p hj prog w E _ (fin rfl))
    · cases hh : (List.range' 0 xs.length).all f with
      | true => rw [hh] at h; exact wpAny_pure h
      | false => rw [hh] at h; exact wpAny_pure h
  · rw [if_pos (by rw [la, lb]; simpa using z)]
    rw [decide_eq_false z, Bool.false_and] at h
    exact wpAny_bind (wpAny_rule (wpAny_pure h))
theorem eq_dictH {K : Type} [DecidableEq K] {knd : HeapKind prog w K} {a b : Addr} {xs ys : List (K × Addr × Value)} {f : Nat → Bool} {Q : Value → Shared → Prop} (ha : (a == sysModules) = false) (hb : (b == sysModules) = false) (hr : knd.room A.in1) (da : t.heap.DictOfH knd a xs) (db : t.heap.DictOfH knd b ys)
    (hf : ∀ (i : Nat) (x : K × Addr × Value), xs[i]? = some x → (∀ (j : Nat) (p : Addr × Value), ys[j]? ≠ some (x.1, p)) → f i = false) (hg : ∀ (i : Nat) (x : K × Addr × Value), xs[i]? = some x → ∀ (j : Nat) (p : Addr × Value), ys[j]? = some (x.1, p) → SeqAt.EqAt A.in1 t x.2.2 p.2 (f i)) (hu : A.units < cLine) (h : Q (.bool (decide (xs.length = ys.length) && (List.range' 0 xs.length).all f)) t) :
    wpAny (model prog w) A (compareOp .Eq (.ref a) (.ref b)) Q E t := by
  have ta : t.TypeIs (.ref a) "dict" := by obtain ⟨o, _, _, h1, h2, _⟩ := da; exact ⟨o, h1, h2.1⟩
  have tb : t.TypeIs (.ref b) "dict" := by obtain ⟨o, _, _, h1, h2, _⟩ := db; exact ⟨o, h1, h2.1⟩
  refine wpAny_richCompare_same_room (op := .Eq) ta tb PySem.F.slot_dict_eq (wpAny_call_entry PySem.F.slot_dict_eq ta PySem.F.entry_dict_eq ?_ (PySem.F.args_dict_eq_2 _ _)) hu
  show wpAny _ _ (Builtin.Dict.dictSlotArgs "__eq__" ⟨[.ref a, .ref b], []⟩ >>= _) _ _ t
  refine wpAny_bind ?_
  unfold Builtin.Dict.dictSlotArgs
  refine wpAny_bind (wpAny_notOrdered_dict ta ?_)
  show wpAny _ _ (pure (Value.ref a, Value.ref b)) _ _ t
  refine wpAny_pure ?_
  refine wpAny_bind (wpAny_isInstance (T := "dict") tb PySem.F.sub_dict_dict ?_)
  simp only [Bool.not_true, Bool.false_eq_true, if_false]
  refine wpAny_bind (wpAny_pure (wpAny_bind (wpAny_pure ?_)))
  exact wpAny_bind (samePairs_H ha hb hr da db hf hg (wpAny_pure ⟨_, rfl, (fun z => nomatch z), (by simpa using h)⟩))
theorem ne_dictH {K : Type} [DecidableEq K] {knd : HeapKind prog w K} {a b : Addr} {xs ys : List (K × Addr × Value)} {f : Nat → Bool} {Q : Value → Shared → Prop} (ha : (a == sysModules) = false) (hb : (b == sysModules) = false) (hr : knd.room A.in1) (da : t.heap.DictOfH knd a xs) (db : t.heap.DictOfH knd b ys)
    (hf : ∀ (i : Nat) (x : K × Addr × Value), xs[i]? = some x → (∀ (j : Nat) (p : Addr × Value), ys[j]? ≠ some (x.1, p)) → f i = false) (hg : ∀ (i : Nat) (x : K × Addr × Value), xs[i]? = some x → ∀ (j : Nat) (p : Addr × Value), ys[j]? = some (x.1, p) → SeqAt.EqAt A.in1 t x.2.2 p.2 (f i)) (hu : A.units < cLine) (h : Q (.bool (!(decide (xs.length = ys.length) && (List.range' 0 xs.length).all f))) t) :
    wpAny (model prog w) A (compareOp .NotEq (.ref a) (.ref b)) Q E t := by
  have ta : t.TypeIs (.ref a) "dict" := by obtain ⟨o, _, _, h1, h2, _⟩ := da; exact ⟨o, h1, h2.1⟩
  have tb : t.TypeIs (.ref b) "dict" := by obtain ⟨o, _, _, h1, h2, _⟩ := db; exact ⟨o, h1, h2.1⟩
  refine wpAny_richCompare_same_room (op := .NotEq) ta tb PySem.F.slot_dict_ne (wpAny_call_entry PySem.F.slot_dict_ne ta PySem.F.entry_dict_ne ?_ (PySem.F.args_dict_ne_2 _ _)) hu
  show wpAny _ _ (Builtin.Dict.dictSlotArgs "__ne__" ⟨[.ref a, .ref b], []⟩ >>= _) _ _ t
  refine wpAny_bind ?_
  unfold Builtin.Dict.dictSlotArgs
  refine wpAny_bind (wpAny_notOrdered_dict ta ?_)
  show wpAny _ _ (pure (Value.ref a, Value.ref b)) _ _ t
  refine wpAny_pure ?_
  refine wpAny_bind (wpAny_isInstance (T := "dict") tb PySem.F.sub_dict_dict ?_)
  simp only [Bool.not_true, Bool.false_eq_true, if_false]
  refine wpAny_bind (wpAny_pure (wpAny_bind (wpAny_pure ?_)))
  exact wpAny_bind (samePairs_H ha hb hr da db hf hg (wpAny_pure ⟨_, rfl, (fun z => nomatch z), (by simpa using h)⟩))
end
theorem getD_of_mem {k d : D} : ∀ {kvs : List (D × D)}, (kvs.map (·.1)).Nodup → (k, d) ∈ kvs → getD k kvs = some d
  | [], _, h => nomatch h
  | (j, e) :: r, nd, h => by
    rw [List.map_cons, List.nodup_cons] at nd
    unfold getD
    rcases List.mem_cons.mp h with h | h
    · cases h
      rw [if_pos (beqD_self _)]
    · have : j ≠ k := fun q => nd.1 (by rw [q]; exact List.mem_map.mpr ⟨_, h, rfl⟩)
      rw [beqD_eq, if_neg (by simpa using this)]
      exact getD_of_mem nd.2 h
theorem mem_of_getD {k d : D} : ∀ {kvs : List (D × D)}, getD k kvs = some d → (k, d) ∈ kvs
  | [], h => nomatch h
  | (j, e) :: r, h => by
    unfold getD at h
    rw [beqD_eq] at h
    split at h
    · rename_i q
      cases h
      rw [of_decide_eq_true q]
      exact List.mem_cons_self
    · exact List.mem_cons_of_mem _ (mem_of_getD h)
section
variable {w : World} {K : PySem.W.Frag} {H : Hp} {G : Wd}
theorem TP.at_ : ∀ {kvs : List (D × D)} {xs : List (NestedKey × Addr × Value)}, TP w K H G kvs xs → ∀ {i : Nat} {x : NestedKey × Addr × Value}, xs[i]? = some x → ∃ k d v, kvs[i]? = some (k, d) ∧ x.1 = nk k ∧ keyT k = true ∧ RelV v x.2.2 ∧ Rep w K H G v d
  | _, _, .nil, _, _, e => by simp at e
  | _, _, .cons a _ c d _, 0, x, e => by
    simp only [List.getElem?_cons_zero, Option.some.injEq] at e
    subst e
    exact ⟨_, _, _, rfl, rfl, a, c, d⟩
  | _, _, .cons _ _ _ _ r, i + 1, x, e => by
    rw [List.getElem?_cons_succ] at e
    obtain ⟨k, d, v, h⟩ := TP.at_ r e
    exact ⟨k, d, v, h⟩
end
/-- the same pairs -/
def pairsEq (kvs les : List (D × D)) : Bool := decide (kvs.length = les.length) && kvs.all fun p => match getD p.1 les with
  | some y => pyEq p.2 y
  | none => false
def mqB (s : S) (d e : D) : Option Bool := match content s d, content s e with
  | some (.M kvs), some (.M les) => if tupKs kvs && tupKs les && kvs.all (fun p => dat 50 p.2) && les.all (fun p => dat 50 p.2) then some (pairsEq kvs les) else none
  | _, _ => none
def eqKD : D → D → Ex := fun d e s => truR s (mqB s d e)
def neKD : D → D → Ex := fun d e s => truR s ((mqB s d e).map not)
theorem truths_eqK : Truths eqKD := truths_truR
theorem truths_neK : Truths neKD := truths_truR (f := fun s d e => (mqB s d e).map not)
section
variable {X : Cx} {T : Tb} {W : Wi}
theorem mqB_at {pins : List (Addr × Obj)} {st : Shared} {σ : Sg} {H : Hp} {G : Wd} {s : S} {x y : V} {v u : Value} {d e : D} {b : Bool} (hu : X.A.units + 66 < cLine) (I : Inv X pins σ H st) (rx : RelV x v) (ry : RelV y u) (J : StR X.w X.K T σ H G s) (r1 : RepT X.w X.K σ H G s x d) (r2 : RepT X.w X.K σ H G s y e) (h : mqB s d e = some b) :
    ∃ (p q : Addr) (xs ys : List (NestedKey × Addr × Value)) (f : Nat → Bool), v = .ref p ∧ u = .ref q ∧ (p == sysModules) = false ∧ (q == sysModules) = false ∧ st.heap.DictOfH (nestedKind X.prog X.w) p xs ∧ st.heap.DictOfH (nestedKind X.prog X.w) q ys ∧
      (∀ (i : Nat) (x : NestedKey × Addr × Value), xs[i]? = some x → (∀ (j : Nat) (p : Addr × Value), ys[j]? ≠ some (x.1, p)) → f i = false) ∧ (∀ (i : Nat) (x : NestedKey × Addr × Value), xs[i]? = some x → ∀ (j : Nat) (p : Addr × Value), ys[j]? = some (x.1, p) → SeqAt.EqAt X.A.in1 st x.2.2 p.2 (f i)) ∧ b = (decide (xs.length = ys.length) && (List.range' 0 xs.length).all f) := by
  unfold mqB at h
  split at h
  · rename_i kvs les h1 h2
    split at h
    · rename_i hc
      simp only [Bool.and_eq_true] at hc
      obtain ⟨⟨⟨c1, c2⟩, c3⟩, c4⟩ := hc
      cases h
      obtain ⟨p, es, rfl, k1, k2, k3⟩ := content_M J r1 h1
      obtain ⟨q, fs, rfl, k4, k5, k6⟩ := content_M J r2 h2
      obtain rfl : v = Value.ref p := rx
      obtain rfl : u = Value.ref q := ry
      obtain ⟨⟨l1, z1, o1, m1, m2, m3⟩, _⟩ := I.hok p _ k1
      obtain ⟨⟨l2, z2, o2, n1, n2, n3⟩, _⟩ := I.hok q _ k4
      obtain ⟨xs, t1, e1⟩ := TP.of (P := X.prog) k2 c1
      obtain ⟨ys, t2, e2⟩ := TP.of (P := X.prog) k5 c2
      refine ⟨p, q, xs, ys, fun i => match kvs[i]? with | some p => (match getD p.1 les with | some y => pyEq p.2 y | none => false) | none => true, rfl, rfl, z1, z2, ⟨o1, es.l.toArray, es.ep, m1, m2, m3, by simpa using e1, t1.iss I, t1.nodup k3⟩, ⟨o2, fs.l.toArray, fs.ep, n1, n2, n3, by simpa using e2, t2.iss I, t2.nodup k6⟩, ?_, ?_, ?_⟩
      · intro i x hx hn
        obtain ⟨k, d, v, a1, a2, a3, a4, a5⟩ := t1.at_ hx
        simp only [a1]
        have f := TP.find a3 t2
        cases hg : getD k les with
        | none => rfl
        | some y =>
          rw [hg] at f
          obtain ⟨aa, xx, vv, f1, _, _⟩ := f
          exfalso
          unfold atKey at f1
          obtain ⟨z, hz, ez⟩ := Option.map_eq_some_iff.mp f1
          have hz1 := List.find?_some hz
          have hz2 := List.mem_of_find?_eq_some hz
          obtain ⟨j, hj⟩ := List.mem_iff_getElem?.mp hz2
          have hk : z.1 = nk k := by simpa using hz1
          exact hn j z.2 (by rw [hj, a2, ← hk])
      · intro i x hx j pp hj
        obtain ⟨k, d, v, a1, a2, a3, a4, a5⟩ := t1.at_ hx
        obtain ⟨k', d', v', b1, b2, b3, b4, b5⟩ := t2.at_ hj
        have ek : k = k' := nk_inj k k' (keyT_ok a3).1 (keyT_ok b3).1 (by rw [← a2, ← b2])
        subst ek
        have hg : getD k les = some d' := getD_of_mem k6 (List.mem_of_getElem? b1)
        simp only [a1, hg]
        have q1 : dat 50 d = true := List.all_eq_true.mp c3 (k, d) (List.mem_of_getElem? a1)
        have q2 : dat 50 d' = true := List.all_eq_true.mp c4 (k, d') (List.mem_of_getElem? b1)
        obtain ⟨as, g1⟩ := Dp.reads I _ _ _ (Rep.dp 50 a5 q1) a4
        obtain ⟨bs, g2⟩ := Dp.reads I _ _ _ (Rep.dp 50 b5 q2) b4
        have sh : ∀ z : D, dat 50 z = true → SeqAt.shaped (py z) = true := fun z hz => by
          have := dat_canLay 50 z hz
          unfold SeqAt.shaped
          rw [this.1, Bool.true_and, decide_eq_true_eq]
          omega
        rw [← pyEq_eqv d d' 50 q1 q2]
        exact PySem.W.keq_at g1 g2 (sh d q1) (sh d' q2) (by show X.A.units + 1 + 64 < cLine; omega)
      · have lx := t1.len
        have ly := t2.len
        unfold pairsEq
        rw [lx, ly]
        congr 1
        rw [Bool.eq_iff_iff, List.all_eq_true, List.all_eq_true]
        constructor
        · intro g i hi
          have hi : i < kvs.length := by simpa using hi
          rw [List.getElem?_eq_getElem hi]
          exact g _ (List.getElem_mem hi)
        · intro g x hx
          obtain ⟨i, hi, rfl⟩ := List.getElem_of_mem hx
          have := g i (by simp; omega)
          rw [List.getElem?_eq_getElem hi] at this
          exact this
    · cases h
  · cases h
theorem b2_eqK (hu : X.A.units + 66 < cLine) : B2 X T W (compareOp .Eq) eqKD := by
  intro pins st σ H x y v u G s d e Q I rx ry J r1 r2 q
  unfold eqKD at q
  cases h : mqB s d e with
  | none => rw [h] at q; exact q.elim
  | some b =>
    rw [h] at q
    obtain ⟨p, p2, xs, ys, f, rfl, rfl, z1, z2, z3, z4, z5, z6, z7⟩ := mqB_at hu I rx ry J r1 r2 h
    exact eq_dictH z1 z2 (room_nested (by omega)) z3 z4 z5 z6 (by omega) ⟨.bl b, H, I, by rw [← z7]; rfl, q _ _ _ Stp.refl J (.bl b)⟩
theorem b2_neK (hu : X.A.units + 66 < cLine) : B2 X T W (compareOp .NotEq) neKD := by
  intro pins st σ H x y v u G s d e Q I rx ry J r1 r2 q
  unfold neKD at q
  cases h : mqB s d e with
  | none => rw [h] at q; exact q.elim
  | some b =>
    rw [h] at q
    obtain ⟨p, p2, xs, ys, f, rfl, rfl, z1, z2, z3, z4, z5, z6, z7⟩ := mqB_at hu I rx ry J r1 r2 h
    exact ne_dictH z1 z2 (room_nested (by omega)) z3 z4 z5 z6 (by omega) ⟨.bl (!b), H, I, by rw [← z7]; rfl, q _ _ _ Stp.refl J (.bl _)⟩
end
end G

set_option Elab.async false
set_option linter.all false
set_option maxRecDepth 100000
set_option maxHeartbeats 4000000
namespace G
open PySem PySem.Spec PyProof.Rows L2
/-! ### for .. in zip(two tuples); x.rstrip(y), x.index(y) -/
def zipTI (f g : Ex) : Ix := fun s => (f s).bind fun d s => (g s).bind fun e s => match d, e with
  | .tup xs, .tup ys => .ok (fixN (pairUp xs ys)) s
  | _, _ => .bad
theorem pairUp_get (xs ys : List D) (i : Nat) : (pairUp xs ys)[i]? = match xs[i]?, ys[i]? with
  | some x, some y => some (.tup [x, y])
  | _, _ => none := by
  unfold pairUp
  rw [List.getElem?_zipWith]
  cases xs[i]? <;> cases ys[i]? <;> rfl
section
variable {X : Cx} {T : Tb} {W : Wi} {p pos : Pos}
theorem si_zipT {e e2 : Expr} {f g : Ex} {tpos : Pos} {elts : List Expr} {kk : Nat} (hg : Gl X "zip") (hm : X.mg "zip" = none) (h : SV X T W e f) (h2 : SV X T W e2 g) (h1 : starEach [e, e2] X.env = (false, eval e X.env) :: starEach [e2] X.env := by rfl) (h3 : starEach [e2] X.env = (false, eval e2 X.env) :: starEach [] X.env := by rfl)
    (h4 : ((backTo pos (starEach [e2] X.env)).any fun x => x.fst) = false := by rfl) : SI X T W (.Tuple elts kk tpos) (.Call (.Name "zip" p) [e, e2] [] pos) (zipTI f g) := by
  refine PI.imp (RZ.pi_zipA hg hm (pa_cons h (pa_cons h2 pa_nil h3) h1) h1 h4) fun σ H Q ⟨G, s, I, q⟩ => ?_
  refine tV_bind I q fun d s1 H1 G1 v b J r q => ?_
  refine tV_bind J (R.holds_mono q (fun _ _ p => p) fun _ _ _ p => PX.tr b p) fun e s2 H2 G2 u b2 J2 r2 q => ?_
  cases d with
  | tup xs =>
    cases e with
    | tup ys =>
      have r' : Rep X.w X.K H2 G2 v (.tup xs) := r.kp (J.kp b2)
      cases r' with
      | @tup a vs _ hsq rr =>
      cases r2 with
      | @tup a2 us _ hsq2 rr2 =>
      refine ⟨a, a2, vs, us, rfl, .inr ⟨hsq, hsq2, q _ _ _ (b.trans b2) J2 ?_⟩⟩
      intro i σ1 H3 G3 s3 b3 J3
      have t1 : Rep X.w X.K H3 G3 (.ref a) (.tup xs) := (Rep.tup hsq rr).kp (J2.kp b3)
      have t2 : Rep X.w X.K H3 G3 (.ref a2) (.tup ys) := (Rep.tup hsq2 rr2).kp (J2.kp b3)
      cases t1 with
      | @tup _ vs3 _ k1 q1 =>
      cases t2 with
      | @tup _ us3 _ k2 q2 =>
      have z1 := q1.at' i
      have z2 := q2.at' i
      unfold fixN
      rw [pairUp_get]
      cases e1 : xs[i]? with
      | none => rw [e1] at z1; exact ⟨vs3, us3, k1, k2, .inl z1⟩
      | some x =>
        rw [e1] at z1
        cases e2 : ys[i]? with
        | none => rw [e2] at z2; exact ⟨vs3, us3, k1, k2, .inr z2⟩
        | some y =>
          rw [e2] at z2
          obtain ⟨w1, hw1, rw1⟩ := z1
          obtain ⟨w2, hw2, rw2⟩ := z2
          refine ⟨⟨vs3, us3, w1, w2, k1, k2, hw1, hw2⟩, fun v' H4 ⟨p, y1, y2, f1, f2, f3, f4, f5⟩ => ?_⟩
          subst f1 f3
          have g1 := f4 vs3 k1
          rw [hw1] at g1
          cases g1
          have g2 := f5 us3 k2
          rw [hw2] at g2
          cases g2
          have k := J3.kp (Stp.fresh (o := HO.tup [w1, w2]) f2)
          exact ⟨_, Stp.fresh f2, J3.fresh f2, .tup (.inl (.inl upd_same)) (.cons (rw1.kp k) (.cons (rw2.kp k) .nil))⟩
    | _ => exact q.elim
  | _ => exact q.elim
def rstripM : Mop := fun d ds s => match d, ds with
  | .str x, [.str y] => if x.length ≤ line then .ok (.str (Txt.rstripChars (toStr x) (toStr y)).cps.toList) s else .bad
  | _, _ => .bad
theorem toStr_back (x : Str) : toStr x.cps.toList = x := by
  cases x
  simp [toStr]
abbrev rRstrip : V → List V → Hp → VK → Prop := fun x xs H Q => ∃ a b, x = V.str a ∧ xs = [V.str b] ∧ a.length ≤ sizeLine ∧ Q (V.str (Txt.rstripChars a b)) H
theorem rstrip_ok : MOk X T W rstripM rRstrip := by
  intro σ H G s x xs d ds Q I r1 r2 q
  unfold rstripM at q
  split at q
  · rename_i a b
    split at q
    · rename_i hz
      cases r1
      cases r2 with
      | cons r3 r4 =>
        cases r4
        cases r3
        refine ⟨_, _, rfl, rfl, by rw [length_toStr]; exact hz, ?_⟩
        have := q H G (.str (toStr (Txt.rstripChars (toStr a) (toStr b)).cps.toList)) Stp.refl I (.str _)
        rw [toStr_back] at this
        exact this
    · exact q.elim
  · exact q.elim
def indexM : Mop := fun d ds s => match d, ds with
  | .str x, [.str y] => (match Builtin.Str.occurrences (toStr x) (toStr y) 0 (toStr x).length 1 with
    | i :: _ => .ok (.int (i : Nat)) s
    | [] => .bad)
  | _, _ => .bad
abbrev rIndex : V → List V → Hp → VK → Prop := fun x xs H Q => ∃ a b i rest, x = V.str a ∧ xs = [V.str b] ∧ Builtin.Str.occurrences a b 0 a.length 1 = i :: rest ∧ Q (V.int (i : Nat)) H
theorem index_ok : MOk X T W indexM rIndex := by
  intro σ H G s x xs d ds Q I r1 r2 q
  unfold indexM at q
  split at q
  · rename_i a b
    cases e : Builtin.Str.occurrences (toStr a) (toStr b) 0 (toStr a).length 1 with
    | nil => rw [e] at q; exact q.elim
    | cons i rest =>
      rw [e] at q
      cases r1
      cases r2 with
      | cons r3 r4 =>
        cases r4
        cases r3
        exact ⟨_, _, i, rest, rfl, rfl, e, q _ _ _ Stp.refl I (.int _)⟩
  · exact q.elim
variable {o e : Expr} {fo fe : Ex} {apos cpos : Pos}
theorem sv_rstrip (ho : SO X T W o fo) (he : SV X T W e fe)
    (hb : attributeBase o "rstrip" X.env (eval o X.env) = eval o X.env := by rfl)
    (hf : ((backTo cpos (starEach [e] X.env)).all (fun y => !y.1) && (backToKw cpos (keywordEach [] X.env)).all (fun y => y.1.isSome) && decide ([e].length + ([] : List Keyword).length + (if ([] : List Keyword).isEmpty then 0 else 1) < 30)) = true := by rfl)
    (hl : (apos.endLine == cpos.line) = true := by rfl) (h1 : starEach [e] X.env = (false, eval e X.env) :: starEach [] X.env := by rfl) (hz : (backTo cpos (starEach [] X.env)).any (·.1) = false := by rfl) :
    SV X T W (.Call (.Attribute o "rstrip" apos) [e] [] cpos) (mthE "str" rstripM fo (consA fe nilA)) :=
  sv_m rstrip_ok F.plainAttrs_str F.slot_str_rstrip F.type_str_rstrip mt_rstripChars ho (sl_cons he sl_nil h1) hb hf hl h1 hz
theorem sv_index (ho : SO X T W o fo) (he : SV X T W e fe)
    (hb : attributeBase o "index" X.env (eval o X.env) = eval o X.env := by rfl)
    (hf : ((backTo cpos (starEach [e] X.env)).all (fun y => !y.1) && (backToKw cpos (keywordEach [] X.env)).all (fun y => y.1.isSome) && decide ([e].length + ([] : List Keyword).length + (if ([] : List Keyword).isEmpty then 0 else 1) < 30)) = true := by rfl)
    (hl : (apos.endLine == cpos.line) = true := by rfl) (h1 : starEach [e] X.env = (false, eval e X.env) :: starEach [] X.env := by rfl) (hz : (backTo cpos (starEach [] X.env)).any (·.1) = false := by rfl) :
    SV X T W (.Call (.Attribute o "index" apos) [e] [] cpos) (mthE "str" indexM fo (consA fe nilA)) :=
  sv_m index_ok F.plainAttrs_str F.slot_str_index F.type_str_index mt_sindex ho (sl_cons he sl_nil h1) hb hf hl h1 hz
end
end G

set_option Elab.async false
set_option linter.all false
set_option maxRecDepth 100000
set_option maxHeartbeats 4000000
namespace G
open PySem PySem.Spec PyProof.Rows L2
/-! ### text * int -/
@[irreducible] def mulSD : D → D → Ex := fun d e s => match d, e with
  | .str xs, .int n => if 1 ≤ n ∧ n < 1073741824 ∧ xs.isEmpty = false ∧ n.toNat * xs.length ≤ 16777216 then .ok (.str (List.replicate n.toNat xs).flatten) s else .bad
  | d, e => numI mulI d e s
section
variable {X : Cx} {T : Tb} {W : Wi}
theorem b2_mulS : B2 X T W (binaryOp .Mult) mulSD := by
  intro pins st σ H x y v u G s d e Q I rx ry J r1 r2 q
  unfold mulSD at q
  split at q
  · rename_i xs n
    split at q
    · rename_i hc
      obtain ⟨h1, h2, h3, h4⟩ := hc
      cases r1
      cases r2
      obtain ⟨t, rfl⟩ := rx
      obtain ⟨t2, rfl⟩ := ry
      have hl : (toStr xs).length = xs.length := length_toStr xs
      have q' := q H G (.str (toStr (List.replicate n.toNat xs).flatten)) Stp.refl J (.str _)
      have hne : xs ≠ [] := fun z => by rw [z] at h3; cases h3
      have hpos : 0 < xs.length := List.length_pos_iff.mpr hne
      have e1 : (xs.length : Int) * n ≤ 16777216 := by
        have z : (xs.length : Int) * n = ((n.toNat * xs.length : Nat) : Int) := by
          rw [Int.natCast_mul, Int.toNat_of_nonneg (by omega), Int.mul_comm]
        rw [z]
        generalize n.toNat * xs.length = k at h4 ⊢
        omega
      refine PySem.P.mul_str (Bool.or_eq_false_iff.mpr ⟨decide_eq_false (by omega), decide_eq_false (by omega)⟩) (fun _ _ => ?_) (fun _ _ => ?_) ?_
      · rw [hl]
        have : (xs.length : Int) ≤ (2 ^ 63 - 1) / n := (Int.le_ediv_iff_mul_le (by omega)).mpr (by omega)
        omega
      · rw [hl, Nat.mul_comm]
        generalize n.toNat * xs.length = k at h4
        show decide (k > PySem.sizeLine) = false
        rw [gLine]
        exact decide_eq_false (by omega)
      · rw [if_neg (by omega)]
        rw [hl]
        by_cases hn : n = 1
        · subst hn
          have : (((1 : Int) == 1) || xs.length == 0) = true := rfl
          rw [if_pos this]
          have e2 : (List.replicate (1 : Int).toNat xs).flatten = xs := by
            show (List.replicate 1 xs).flatten = xs
            simp
          rw [e2] at q'
          exact ⟨.str (toStr xs), H, I, ⟨t, rfl⟩, q'⟩
        · have : ((n == 1) || xs.length == 0) = false := by
            rw [Bool.or_eq_false_iff]
            exact ⟨beq_eq_false_iff_ne.mpr hn, beq_eq_false_iff_ne.mpr (by omega)⟩
          rw [if_neg (by rw [this]; exact Bool.false_ne_true)]
          have e2 : ({ cps := List.foldl (fun x1 x2 => x1 ++ x2) #[] (List.replicate n.toNat (toStr xs).cps) } : Str) = toStr (List.replicate n.toNat xs).flatten := by
            rw [gCatRep]
            simp [toStr]
          rw [e2]
          refine ⟨by rw [length_toStr, gRepLen, gLine]; exact h4, ?_⟩
          exact ⟨.str _, H, I.tok _, ⟨_, rfl⟩, q'⟩
    · exact q.elim
  · exact b2_mulI pins st σ H x y v u G s _ _ Q I rx ry J r1 r2 q
end
end G

set_option Elab.async false
set_option linter.all false
set_option maxRecDepth 100000
set_option maxHeartbeats 0
namespace K02
open PySem PySem.Spec PyProof.Rows L2 G
abbrev PR : Program := PySem.Challenge.pw_leadsever_k02_order_and_beginnings
def top (i : Nat) : Stmt := PR.main.body.getD i (.Pass ⟨0, 0, 0, 0⟩)
def mem (i j : Nat) : Stmt := match top i with
  | .ClassDef (body := b) .. => b.getD j (.Pass ⟨0, 0, 0, 0⟩)
  | _ => .Pass ⟨0, 0, 0, 0⟩
def dfG (x : Str) (s : Stmt) : Df := ⟨fun K => He.ga K x, x, x, defArgs s, defBody s, defScope s, []⟩
def dfM (C x z : Str) (s : Stmt) (dfl : List He.Dv) : Df := ⟨fun K => He.ma K (He.ga K C) x, x, z, defArgs s, defBody s, defScope s, dfl⟩
def dfP (C x z : Str) (s : Stmt) : Df := ⟨geA C x, x, z, defArgs s, defBody s, defScope s, []⟩
def alB (a b : Str) (K : PySem.W.Frag) : Bool := decide (He.ga K a = He.ga K b)
def fn : List Df := ([dfG "_law_well" (top 10), dfG "_law_draw" (top 11), dfG "_law_words" (top 16), dfG "_law_strange" (top 15), dfG "next_word" (top 7), dfG "strange_word" (top 8), dfG "_law_choose" (top 12), dfG "_law_address" (top 13), dfG "beginnings" (top 6), dfG "_law_before" (top 14), dfG "begins" (top 3), dfG "rest_of" (top 4), dfG "address_key" (top 5), dfG "law" (top 17)] : List Df)
def fa : List He.Fa := ([.free "int", .free "len", .glo "_law_draw", .free "range", .int "MOST_LETTERS" 12, .str "LETTERS" "abcdefghijklmnopqrstuvwxyz", .glo "next_word", .glo "_law_choose", .free "tuple", .free "zip", .free "min", .free "max", .glo "_law_well", .glo "_law_address", .glo "beginnings", .free "list", .glo "begins", .free "repr", .glo "rest_of", .glo "address_key", .free "isinstance", .glo "_law_before", .glo "_law_words", .glo "_law_strange", .glo "strange_word", .glo "law"] : List He.Fa)
def exs (K : PySem.W.Frag) : List Bool := [clB K]
def ex (K : PySem.W.Frag) : Bool := (exs K).all id
abbrev R : PySem.W.OpenRow := PySem.W.OpenLaw.row PySem.Challenge.rw_leadsever_k02_order_and_beginnings
abbrev hk : PySem.W.Hook := hookH 5 fa ex fn
def ob (s : PySem.W.SharedT) : AlG := obsHG 5 fa ex fn (HandSHeadRun.getT s)
theorem ob_eq (s : PySem.W.SharedT) : ob s = hk.obs s.abs := obsHG_eq (HandSHeadRun.getT_eq s)
def loose : List Str := (["LETTERS", "MOST_LETTERS", "begins", "rest_of", "address_key", "beginnings", "next_word", "strange_word", "_law_well", "_law_draw", "_law_choose", "_law_address", "_law_before", "_law_strange", "_law_words"] : List Str)
theorem run (w : World) : HandSHeadRun.RunEq R (PySem.W.view R.prog [17]) hk ob 8000 loose w := by
  intro os
  kernel_rfl
end K02

set_option Elab.async false
set_option linter.all false
set_option maxRecDepth 100000
set_option maxHeartbeats 0
namespace K02
open PySem PySem.Spec PyProof.Rows L2 G
def an : List Str := []
def tb (K : PySem.W.Frag) : Tb := ⟨an, by decide, 0, fun c => He.ga K (([] : List Str).getD c "")⟩
structure Hy (K : PySem.W.Frag) (mg : Str → Option Value) : Prop where
  t : Told fa ex fn K
  i : ∃ h : Heap, K.In h ∧ h.Ns mainGlobals mg
section
variable {P : Program} {w : World} {K : PySem.W.Frag} {mg : Str → Option Value} {base : Heap} {H : Hp} {G : Wd}
theorem Hy.glo (y : Hy K mg) (i : Nat) {x : Str} (h : fa[i]? = some (.glo x) := by rfl) : mg x = some (.ref (He.ga K x)) := by
  obtain ⟨_, h1, h2⟩ := y.i
  exact He.glo_ok h1 h2 (y.t.fact i h)
theorem Hy.free (y : Hy K mg) (i : Nat) {x : Str} (h : fa[i]? = some (.free x) := by rfl) : mg x = none := by
  obtain ⟨_, h1, h2⟩ := y.i
  exact He.free_ok h1 h2 (y.t.fact i h)
theorem Hy.int (y : Hy K mg) (i : Nat) {x : Str} {z : Int} (h : fa[i]? = some (.int x z) := by rfl) : ∃ t, mg x = some (.int z t) := by
  obtain ⟨_, h1, h2⟩ := y.i
  exact He.int_ok h1 h2 (y.t.fact i h)
theorem Hy.str (y : Hy K mg) (i : Nat) {x z : Str} (h : fa[i]? = some (.str x z) := by rfl) : ∃ t, mg x = some (.str z t) := by
  obtain ⟨_, h1, h2⟩ := y.i
  exact He.str_ok h1 h2 (y.t.fact i h)
theorem Hy.ex (y : Hy K mg) (i : Nat) {b : Bool} (h : (exs K)[i]? = some b := by rfl) : b = true := List.all_eq_true.mp y.t.more b (List.mem_of_getElem? h)
theorem Hy.ki (y : Hy K mg) : Ki K (tb K) := by
  have e := He.ba (y.ex 0 (b := clB K))
  refine ⟨⟨fun c hc => ?_, fun c f hc hf => ?_⟩, of_decide_eq_true e.1, of_decide_eq_true e.2, fun c hc => ?_, fun c hc => ?_⟩
  · exact match c, hc with
    | n, h => absurd h (Nat.not_lt_zero n)
  · have hf : f ∈ ([] : List Str) := hf
    exact match c, hc with
    | n, h => absurd h (Nat.not_lt_zero n)
  · exact match c, hc with
    | n, h => absurd h (Nat.not_lt_zero n)
  · exact match c, hc with
    | n, h => absurd h (Nat.not_lt_zero n)
def b__law_well_l1 : Sx := (setS 2 (bin2 addD (bin2 (numI modI) (biE intO (consA (bin2 (numI powI) (bin2 addD (bin2 addD (bin2 (numI mulI) (nameO 2) (constE (.int 70019))) (bin2 (numI mulI) (nameO 3) (nameO 3))) (constE (.int 59))) (constE (.int 2))) nilA)) (constE (.int 2147483489))) (constE (.int 13))))
def b__law_well : Sx := (seqS (setS 2 (bin2 addD (constE (.int 8011)) (bin2 (numI mulI) (nameO 1) (constE (.int 97)))))
  (seqS (forS (seqI (nameV 0)) (nameG 3) b__law_well_l1)
  (seqS (setS 4 (ifV (andT (truT (bin2 ltD (nameO 1) (biE lenGO (consA (nameO 0) nilA)))) (truT (bin2 geD (bin2 ixD (nameO 0) (nameO 1)) (bin2 (numI powI) (constE (.int 10)) (constE (.int 18)))))) (bin2 (numI subI) (bin2 ixD (nameO 0) (nameO 1)) (bin2 (numI powI) (constE (.int 10)) (constE (.int 18)))) (constE (.int 0))))
  (retS (celE (dispF (consQ (constE (.str [100, 105, 103, 105, 116, 115])) (nameV 4) (consQ (constE (.str [109, 105, 120, 101, 100])) (nameV 2) nilQ))))))))
def f__law_well : Fn := runF 5 2 b__law_well
theorem ok__law_well (y : Hy K mg) : ∃ fd, FunD K "_law_well" "_law_well" (defArgs (top 10)) (defBody (top 10)) (defScope (top 10)) [] [] (He.ga K "_law_well") fd ∧ Binds K fd ["_law_script", "_law_start"] [] ∧ FnG P w K mg base 1 (He.ga K "_law_well") fd ["_law_script", "_law_start"] (spG w K (tb K) f__law_well) := by
  obtain ⟨fd, F⟩ := y.t.df 0 (d := dfG "_law_well" (top 10))
  have B : Binds K fd ["_law_script", "_law_start"] [] := F.bindsN fun _ _ _ _ _ _ us hl => match us, hl with | [_, _], _ => rfl
  have hN : (["_law_script", "_law_start", "_law_mixed", "_law_entry", "_law_digits"] : List Str).Nodup := by decide +kernel
  refine ⟨fd, F, B, fnG (N := ["_law_script", "_law_start", "_law_mixed", "_law_entry", "_law_digits"]) (ps := ["_law_script", "_law_start"]) (k := 0) (fb := b__law_well) F ⟨rfl, rfl, rfl, hN, rfl, by decide +kernel, by decide +kernel⟩ (by decide) fun cdv A outer s H hr => ?_⟩
  exact (sss_cons (ss_set (i := 2) hN rfl (by first | exact .inl rfl | exact .inr rfl) (sv_bin b2_add (SV.so sv_int) (SV.so (sv_bin b2_mulI (so_name (i := 1) rfl (by first | exact .inl rfl | exact .inr (.inl rfl) | exact .inr (.inr rfl))) (SV.so sv_int)))))
  (sss_cons (ss_for (passes_of rfl) rfl (si_seq (sv_name (i := 0) rfl (by first | exact .inl rfl | exact .inr (.inl rfl) | exact .inr (.inr rfl)))) (sg_name (i := 3) hN rfl (by first | exact .inl rfl | exact .inr rfl)) (sss_one (ss_set (i := 2) hN rfl (by first | exact .inl rfl | exact .inr rfl) (sv_bin b2_add (SV.so (sv_bin b2_mod (SV.so (sv_ty int_ok call_int1 (by exact rfl) (y.free 0) (by decide +kernel) (slo_cons (SV.so (sv_bin b2_pow (SV.so (sv_bin b2_add (SV.so (sv_bin b2_add (SV.so (sv_bin b2_mulI (so_name (i := 2) rfl (by first | exact .inl rfl | exact .inr (.inl rfl) | exact .inr (.inr rfl))) (SV.so sv_int))) (SV.so (sv_bin b2_mulI (so_name (i := 3) rfl (by first | exact .inl rfl | exact .inr (.inl rfl) | exact .inr (.inr rfl))) (so_name (i := 3) rfl (by first | exact .inl rfl | exact .inr (.inl rfl) | exact .inr (.inr rfl))))))) (SV.so sv_int))) (SV.so sv_int))) slo_nil))) (SV.so sv_int))) (SV.so sv_int)))))
  (sss_cons (ss_set (i := 4) hN rfl (by first | exact .inl rfl | exact .inr rfl) (sv_if (st_sw (sw_and (st_cmp b2_lt truths_cmp (so_name (i := 1) rfl (by first | exact .inl rfl | exact .inr (.inl rfl) | exact .inr (.inr rfl))) (SV.so (sv_bi lenG_ok cr_lenG (by exact rfl) (y.free 1) (by decide +kernel) (slo_cons (so_name (i := 0) rfl (by first | exact .inl rfl | exact .inr (.inl rfl) | exact .inr (.inr rfl))) slo_nil))) rfl) (sw_and1 (st_cmp b2_ge truths_cmp (SV.so (sv_ix (hr.un 65 (by decide)) (so_name (i := 0) rfl (by first | exact .inl rfl | exact .inr (.inl rfl) | exact .inr (.inr rfl))) (so_name (i := 1) rfl (by first | exact .inl rfl | exact .inr (.inl rfl) | exact .inr (.inr rfl))) (fun _ _ => rfl))) (SV.so (sv_bin b2_pow (SV.so sv_int) (SV.so sv_int))) rfl)))) (sv_bin b2_sub (SV.so (sv_ix (hr.un 65 (by decide)) (so_name (i := 0) rfl (by first | exact .inl rfl | exact .inr (.inl rfl) | exact .inr (.inr rfl))) (so_name (i := 1) rfl (by first | exact .inl rfl | exact .inr (.inl rfl) | exact .inr (.inr rfl))) (fun _ _ => rfl))) (SV.so (sv_bin b2_pow (SV.so sv_int) (SV.so sv_int)))) sv_int))
  (sss_one (ss_ret (SF.cell (sf_disp (hr.un 9 (by decide)) (spr_cons (sv_str (by rfl)) (sv_name (i := 4) rfl (by first | exact .inl rfl | exact .inr (.inl rfl) | exact .inr (.inr rfl))) (spr_cons (sv_str (by rfl)) (sv_name (i := 2) rfl (by first | exact .inl rfl | exact .inr (.inl rfl) | exact .inr (.inr rfl))) spr_nil)))))))))
def b__law_draw : Sx := (seqS (ifS (truT (bin2 geD (bin2 ixD (nameO 0) (constE (.str [100, 105, 103, 105, 116, 115]))) (nameO 1))) (seqS (setS 2 (bin2 (numI modI) (biE intO (consA (bin2 ixD (nameO 0) (constE (.str [100, 105, 103, 105, 116, 115]))) nilA)) (nameO 1)))
  (seqS (subS (bin2 (numI fdivI) (bin2 ixD (nameO 0) (constE (.str [100, 105, 103, 105, 116, 115]))) (nameO 1)) (nameO 0) (constE (.str [100, 105, 103, 105, 116, 115])))
  (retS (nameV 2)))) nextS)
  (seqS (subS (bin2 (numI modI) (biE intO (consA (bin2 addD (bin2 (numI mulI) (bin2 ixD (nameO 0) (constE (.str [109, 105, 120, 101, 100]))) (constE (.int 44111))) (constE (.int 5903))) nilA)) (constE (.int 2147483647))) (nameO 0) (constE (.str [109, 105, 120, 101, 100])))
  (retS (bin2 (numI modI) (bin2 (numI fdivI) (bin2 (numI modI) (biE intO (consA (bin2 (numI powI) (bin2 (numI modI) (biE intO (consA (bin2 (numI powI) (bin2 ixD (nameO 0) (constE (.str [109, 105, 120, 101, 100]))) (constE (.int 2))) nilA)) (constE (.int 2147483549))) (constE (.int 3))) nilA)) (constE (.int 1000000021))) (constE (.int 17))) (nameO 1)))))
def f__law_draw : Fn := runF 3 2 b__law_draw
theorem ok__law_draw (y : Hy K mg) : ∃ fd, FunD K "_law_draw" "_law_draw" (defArgs (top 11)) (defBody (top 11)) (defScope (top 11)) [] [] (He.ga K "_law_draw") fd ∧ Binds K fd ["_law_well_here", "_law_many"] [] ∧ FnG P w K mg base 1 (He.ga K "_law_draw") fd ["_law_well_here", "_law_many"] (spG w K (tb K) f__law_draw) := by
  obtain ⟨fd, F⟩ := y.t.df 1 (d := dfG "_law_draw" (top 11))
  have B : Binds K fd ["_law_well_here", "_law_many"] [] := F.bindsN fun _ _ _ _ _ _ us hl => match us, hl with | [_, _], _ => rfl
  have hN : (["_law_well_here", "_law_many", "_law_found"] : List Str).Nodup := by decide +kernel
  refine ⟨fd, F, B, fnG (N := ["_law_well_here", "_law_many", "_law_found"]) (ps := ["_law_well_here", "_law_many"]) (k := 0) (fb := b__law_draw) F ⟨rfl, rfl, rfl, hN, rfl, by decide +kernel, by decide +kernel⟩ (by decide) fun cdv A outer s H hr => ?_⟩
  exact (sss_cons (ss_if (st_cmp b2_ge truths_cmp (SV.so (sv_ix (hr.un 65 (by decide)) (so_name (i := 0) rfl (by first | exact .inl rfl | exact .inr (.inl rfl) | exact .inr (.inr rfl))) (SV.so (sv_str (by rfl))) (fun _ _ => rfl))) (so_name (i := 1) rfl (by first | exact .inl rfl | exact .inr (.inl rfl) | exact .inr (.inr rfl))) rfl) (sss_cons (ss_set (i := 2) hN rfl (by first | exact .inl rfl | exact .inr rfl) (sv_bin b2_mod (SV.so (sv_ty int_ok call_int1 (by exact rfl) (y.free 0) (by decide +kernel) (slo_cons (SV.so (sv_ix (hr.un 65 (by decide)) (so_name (i := 0) rfl (by first | exact .inl rfl | exact .inr (.inl rfl) | exact .inr (.inr rfl))) (SV.so (sv_str (by rfl))) (fun _ _ => rfl))) slo_nil))) (so_name (i := 1) rfl (by first | exact .inl rfl | exact .inr (.inl rfl) | exact .inr (.inr rfl)))))
  (sss_cons (ss_sub (hr.un 65 (by decide)) (so_name (i := 0) rfl (by first | exact .inl rfl | exact .inr (.inl rfl) | exact .inr (.inr rfl))) (SV.so (sv_str (by rfl))) (sv_bin b2_fdiv (SV.so (sv_ix (hr.un 65 (by decide)) (so_name (i := 0) rfl (by first | exact .inl rfl | exact .inr (.inl rfl) | exact .inr (.inr rfl))) (SV.so (sv_str (by rfl))) (fun _ _ => rfl))) (so_name (i := 1) rfl (by first | exact .inl rfl | exact .inr (.inl rfl) | exact .inr (.inr rfl)))))
  (sss_one (ss_ret (sv_name (i := 2) rfl (by first | exact .inl rfl | exact .inr (.inl rfl) | exact .inr (.inr rfl))))))) sss_nil)
  (sss_cons (ss_sub (hr.un 65 (by decide)) (so_name (i := 0) rfl (by first | exact .inl rfl | exact .inr (.inl rfl) | exact .inr (.inr rfl))) (SV.so (sv_str (by rfl))) (sv_bin b2_mod (SV.so (sv_ty int_ok call_int1 (by exact rfl) (y.free 0) (by decide +kernel) (slo_cons (SV.so (sv_bin b2_add (SV.so (sv_bin b2_mulI (SV.so (sv_ix (hr.un 65 (by decide)) (so_name (i := 0) rfl (by first | exact .inl rfl | exact .inr (.inl rfl) | exact .inr (.inr rfl))) (SV.so (sv_str (by rfl))) (fun _ _ => rfl))) (SV.so sv_int))) (SV.so sv_int))) slo_nil))) (SV.so sv_int)))
  (sss_one (ss_ret (sv_bin b2_mod (SV.so (sv_bin b2_fdiv (SV.so (sv_bin b2_mod (SV.so (sv_ty int_ok call_int1 (by exact rfl) (y.free 0) (by decide +kernel) (slo_cons (SV.so (sv_bin b2_pow (SV.so (sv_bin b2_mod (SV.so (sv_ty int_ok call_int1 (by exact rfl) (y.free 0) (by decide +kernel) (slo_cons (SV.so (sv_bin b2_pow (SV.so (sv_ix (hr.un 65 (by decide)) (so_name (i := 0) rfl (by first | exact .inl rfl | exact .inr (.inl rfl) | exact .inr (.inr rfl))) (SV.so (sv_str (by rfl))) (fun _ _ => rfl))) (SV.so sv_int))) slo_nil))) (SV.so sv_int))) (SV.so sv_int))) slo_nil))) (SV.so sv_int))) (SV.so sv_int))) (so_name (i := 1) rfl (by first | exact .inl rfl | exact .inr (.inl rfl) | exact .inr (.inr rfl))))))))
def b__law_words : Sx := (seqS (ownS 1 (lcF (rng2I (constE (.int 1)) (bin2 addD (constE (.int 1)) (callE f__law_draw [] (consA (nameV 0) (consA (constE (.int 13)) nilA))))) [2] (nameG 2) yesT (bin2 mulSD (constE (.str [97])) (nameO 2))))
  (seqS (ifS (truT (bin2 eqD (callE f__law_draw [] (consA (nameV 0) (consA (constE (.int 2)) nilA))) (constE (.int 0)))) (setS 1 (celE (addF (nameO 1) (frzE (lstF (consA (constE (.str [97, 97, 97, 97, 97, 97, 97, 97, 97, 97, 97, 98])) (consA (constE (.str [97, 97, 97, 97, 97, 97, 97, 97, 97, 97, 97, 99])) (consA (constE (.str [98])) nilA)))))))) nextS)
  (seqS (ifS (andT (truT (bin2 eqD (callE f__law_draw [] (consA (nameV 0) (consA (constE (.int 3)) nilA))) (constE (.int 0)))) (truT (bin2 neLD (nameO 1) (frzE (lstF nilA))))) (exprS (mthE "list" popM (nameO 1) (consA (callE f__law_draw [] (consA (nameV 0) (consA (biE lenGO (consA (nameO 1) nilA)) nilA))) nilA))) nextS)
  (retS (ifV (truT (bin2 eqD (callE f__law_draw [] (consA (nameV 0) (consA (constE (.int 2)) nilA))) (constE (.int 0)))) (frzE (revF (nameO 1))) (bin2 addD (nameO 1) (slcE (nameO 1) noP (someP (constE (.int 2))))))))))
def f__law_words : Fn := runF 3 1 b__law_words
theorem ok__law_words (y : Hy K mg) : ∃ fd, FunD K "_law_words" "_law_words" (defArgs (top 16)) (defBody (top 16)) (defScope (top 16)) [] [] (He.ga K "_law_words") fd ∧ Binds K fd ["_law_well_here"] [] ∧ FnG P w K mg base 2 (He.ga K "_law_words") fd ["_law_well_here"] (spG w K (tb K) f__law_words) := by
  obtain ⟨_, F__law_draw, B__law_draw, G__law_draw⟩ := ok__law_draw (P := P) (w := w) (base := base) y
  obtain ⟨fd, F⟩ := y.t.df 2 (d := dfG "_law_words" (top 16))
  have B : Binds K fd ["_law_well_here"] [] := F.bindsN fun _ _ _ _ _ _ us hl => match us, hl with | [_], _ => rfl
  have hN : (["_law_well_here", "_law_found", "_law_count"] : List Str).Nodup := by decide +kernel
  refine ⟨fd, F, B, fnG (N := ["_law_well_here", "_law_found", "_law_count"]) (ps := ["_law_well_here"]) (k := 1) (fb := b__law_words) F ⟨rfl, rfl, rfl, hN, rfl, by decide +kernel, by decide +kernel⟩ (by decide) fun cdv A outer s H hr => ?_⟩
  exact (sss_cons (ss_ownLc (i := 1) rfl hN rfl rfl rfl (si_range2 (by exact rfl) (y.free 3) sv_int (sv_bin b2_add (SV.so sv_int) (SV.so (sv_call_of (dvs := []) (pe_cg G__law_draw (hr.mono (by decide)) (by exact rfl) (y.glo 2) F__law_draw.kp B__law_draw .nil (sl_cons (sv_name (i := 0) rfl (by first | exact .inl rfl | exact .inr (.inl rfl) | exact .inr (.inr rfl))) (sl_cons sv_int sl_nil))) Dfl.nil)))) (blk_ok (own := [("_law_count", 2)]) (by kernel_rfl)) (by decide) (fun _ _ _ _ _ => (sg_name (i := 2) hN rfl (by first | exact .inl rfl | exact .inr rfl))) (fun _ _ _ _ _ => sts_nil) (fun _ _ _ _ _ => (sv_bin b2_mulS (SV.so (sv_str (by rfl))) (so_name (i := 2) rfl (by first | exact .inl rfl | exact .inr (.inl rfl) | exact .inr (.inr rfl))))))
  (sss_cons (ss_if (st_cmp (b2_eq (hr.un 64 (by decide))) truths_eq (SV.so (sv_call_of (dvs := []) (pe_cg G__law_draw (hr.mono (by decide)) (by exact rfl) (y.glo 2) F__law_draw.kp B__law_draw .nil (sl_cons (sv_name (i := 0) rfl (by first | exact .inl rfl | exact .inr (.inl rfl) | exact .inr (.inr rfl))) (sl_cons sv_int sl_nil))) Dfl.nil)) (SV.so sv_int) rfl) (sss_one (ss_set (i := 1) hN rfl (by first | exact .inl rfl | exact .inr rfl) (SF.cell (sf_add (so_name (i := 1) rfl (by first | exact .inl rfl | exact .inr (.inl rfl) | exact .inr (.inr rfl))) (SV.so (SF.sv (sf_lst (sl_cons (sv_str (by rfl)) (sl_cons (sv_str (by rfl)) (sl_cons (sv_str (by rfl)) sl_nil)))))))))) sss_nil)
  (sss_cons (ss_if (st_sw (sw_and (st_cmp (b2_eq (hr.un 64 (by decide))) truths_eq (SV.so (sv_call_of (dvs := []) (pe_cg G__law_draw (hr.mono (by decide)) (by exact rfl) (y.glo 2) F__law_draw.kp B__law_draw .nil (sl_cons (sv_name (i := 0) rfl (by first | exact .inl rfl | exact .inr (.inl rfl) | exact .inr (.inr rfl))) (sl_cons sv_int sl_nil))) Dfl.nil)) (SV.so sv_int) rfl) (sw_and1 (st_cmp (b2_neL (hr.un 64 (by decide))) truths_neL (so_name (i := 1) rfl (by first | exact .inl rfl | exact .inr (.inl rfl) | exact .inr (.inr rfl))) (SV.so (SF.sv (sf_lst sl_nil))) rfl)))) (sss_one (ss_expr (SV.so (sv_pop1 (so_name (i := 1) rfl (by first | exact .inl rfl | exact .inr (.inl rfl) | exact .inr (.inr rfl))) (sv_call_of (dvs := []) (pe_cg G__law_draw (hr.mono (by decide)) (by exact rfl) (y.glo 2) F__law_draw.kp B__law_draw .nil (sl_cons (sv_name (i := 0) rfl (by first | exact .inl rfl | exact .inr (.inl rfl) | exact .inr (.inr rfl))) (sl_cons (sv_bi lenG_ok cr_lenG (by exact rfl) (y.free 1) (by decide +kernel) (slo_cons (so_name (i := 1) rfl (by first | exact .inl rfl | exact .inr (.inl rfl) | exact .inr (.inr rfl))) slo_nil)) sl_nil))) Dfl.nil))))) sss_nil)
  (sss_one (ss_ret (sv_if (st_cmp (b2_eq (hr.un 64 (by decide))) truths_eq (SV.so (sv_call_of (dvs := []) (pe_cg G__law_draw (hr.mono (by decide)) (by exact rfl) (y.glo 2) F__law_draw.kp B__law_draw .nil (sl_cons (sv_name (i := 0) rfl (by first | exact .inl rfl | exact .inr (.inl rfl) | exact .inr (.inr rfl))) (sl_cons sv_int sl_nil))) Dfl.nil)) (SV.so sv_int) rfl) (SF.sv (sf_rev (so_name (i := 1) rfl (by first | exact .inl rfl | exact .inr (.inl rfl) | exact .inr (.inr rfl))))) (sv_bin b2_add (so_name (i := 1) rfl (by first | exact .inl rfl | exact .inr (.inl rfl) | exact .inr (.inr rfl))) (SV.so (sv_slice (so_name (i := 1) rfl (by first | exact .inl rfl | exact .inr (.inl rfl) | exact .inr (.inr rfl))) sp_none (sp_some (SV.so sv_int)))))))))))
def b__law_strange_l1 : Sx := (seqS (ifS (truT (bin2 ltD (biE lenGO (consA (nameO 1) nilA)) (constE (.int 12)))) (setS 1 (bin2 addD (nameO 1) (constE (.str [97])))) (seqS (setS 2 (mthE "str" rstripM (nameO 1) (consA (constE (.str [122])) nilA)))
  (seqS (setS 3 (constE (.str [97, 98, 99, 100, 101, 102, 103, 104, 105, 106, 107, 108, 109, 110, 111, 112, 113, 114, 115, 116, 117, 118, 119, 120, 121, 122])))
  (setS 1 (bin2 addD (slcE (nameO 2) noP (someP (negE (constE (.int 1))))) (bin2 ixD (nameO 3) (bin2 addD (mthE "str" indexM (nameO 3) (consA (bin2 ixD (nameO 2) (negE (constE (.int 1)))) nilA)) (constE (.int 1)))))))))
  (ifS (truT (bin2 niD (nameO 1) (nameO 0))) (retS (nameV 1)) nextS))
def b__law_strange : Sx := (seqS (setS 1 (constE (.str [])))
  (whileS (truT (constE (.bl true))) b__law_strange_l1))
def f__law_strange : Fn := runF 4 1 b__law_strange
theorem ok__law_strange (y : Hy K mg) : ∃ fd, FunD K "_law_strange" "_law_strange" (defArgs (top 15)) (defBody (top 15)) (defScope (top 15)) [] [] (He.ga K "_law_strange") fd ∧ Binds K fd ["_law_words_here"] [] ∧ FnG P w K mg base 1 (He.ga K "_law_strange") fd ["_law_words_here"] (spG w K (tb K) f__law_strange) := by
  obtain ⟨fd, F⟩ := y.t.df 3 (d := dfG "_law_strange" (top 15))
  have B : Binds K fd ["_law_words_here"] [] := F.bindsN fun _ _ _ _ _ _ us hl => match us, hl with | [_], _ => rfl
  have hN : (["_law_words_here", "_law_word", "_law_kept", "_law_letters"] : List Str).Nodup := by decide +kernel
  refine ⟨fd, F, B, fnG (N := ["_law_words_here", "_law_word", "_law_kept", "_law_letters"]) (ps := ["_law_words_here"]) (k := 0) (fb := b__law_strange) F ⟨rfl, rfl, rfl, hN, rfl, by decide +kernel, by decide +kernel⟩ (by decide) fun cdv A outer s H hr => ?_⟩
  exact (sss_cons (ss_set (i := 1) hN rfl (by first | exact .inl rfl | exact .inr rfl) (sv_str (by rfl)))
  (sss_one (ss_while (passes_of rfl) (st_truth (SV.so sv_bl)) (sss_cons (ss_if (st_cmp b2_lt truths_cmp (SV.so (sv_bi lenG_ok cr_lenG (by exact rfl) (y.free 1) (by decide +kernel) (slo_cons (so_name (i := 1) rfl (by first | exact .inl rfl | exact .inr (.inl rfl) | exact .inr (.inr rfl))) slo_nil))) (SV.so sv_int) rfl) (sss_one (ss_set (i := 1) hN rfl (by first | exact .inl rfl | exact .inr rfl) (sv_bin b2_add (so_name (i := 1) rfl (by first | exact .inl rfl | exact .inr (.inl rfl) | exact .inr (.inr rfl))) (SV.so (sv_str (by rfl)))))) (sss_cons (ss_set (i := 2) hN rfl (by first | exact .inl rfl | exact .inr rfl) (sv_rstrip (so_name (i := 1) rfl (by first | exact .inl rfl | exact .inr (.inl rfl) | exact .inr (.inr rfl))) (sv_str (by rfl))))
  (sss_cons (ss_set (i := 3) hN rfl (by first | exact .inl rfl | exact .inr rfl) (sv_str (by rfl)))
  (sss_one (ss_set (i := 1) hN rfl (by first | exact .inl rfl | exact .inr rfl) (sv_bin b2_add (SV.so (sv_slice (so_name (i := 2) rfl (by first | exact .inl rfl | exact .inr (.inl rfl) | exact .inr (.inr rfl))) sp_none (sp_some (SV.so (sv_neg sv_int))))) (SV.so (sv_ix (hr.un 65 (by decide)) (so_name (i := 3) rfl (by first | exact .inl rfl | exact .inr (.inl rfl) | exact .inr (.inr rfl))) (SV.so (sv_bin b2_add (SV.so (sv_index (so_name (i := 3) rfl (by first | exact .inl rfl | exact .inr (.inl rfl) | exact .inr (.inr rfl))) (sv_ix (hr.un 65 (by decide)) (so_name (i := 2) rfl (by first | exact .inl rfl | exact .inr (.inl rfl) | exact .inr (.inr rfl))) (SV.so (sv_neg sv_int)) (fun _ _ => rfl)))) (SV.so sv_int))) (fun _ _ => rfl)))))))))
  (sss_one (ss_if (st_cmp (b2_ni (hr.un 65 (by decide))) truths_ni (so_name (i := 1) rfl (by first | exact .inl rfl | exact .inr (.inl rfl) | exact .inr (.inr rfl))) (so_name (i := 0) rfl (by first | exact .inl rfl | exact .inr (.inl rfl) | exact .inr (.inr rfl))) rfl) (sss_one (ss_ret (sv_name (i := 1) rfl (by first | exact .inl rfl | exact .inr (.inl rfl) | exact .inr (.inr rfl))))) sss_nil))))))
def b_next_word : Sx := (seqS (ifS (truT (bin2 ltD (biE lenGO (consA (nameO 0) nilA)) (constE (.int 12)))) (retS (bin2 addD (nameO 0) (constE (.str [97])))) nextS)
  (seqS (setS 1 (mthE "str" rstripM (nameO 0) (consA (constE (.str [122])) nilA)))
  (retS (ifV (truT (bin2 neD (nameO 1) (constE (.str [])))) (bin2 addD (slcE (nameO 1) noP (someP (negE (constE (.int 1))))) (bin2 ixD (constE (.str [97, 98, 99, 100, 101, 102, 103, 104, 105, 106, 107, 108, 109, 110, 111, 112, 113, 114, 115, 116, 117, 118, 119, 120, 121, 122])) (bin2 addD (mthE "str" indexM (constE (.str [97, 98, 99, 100, 101, 102, 103, 104, 105, 106, 107, 108, 109, 110, 111, 112, 113, 114, 115, 116, 117, 118, 119, 120, 121, 122])) (consA (bin2 ixD (nameO 1) (negE (constE (.int 1)))) nilA)) (constE (.int 1))))) (constE .non)))))
def f_next_word : Fn := runF 2 1 b_next_word
theorem ok_next_word (y : Hy K mg) : ∃ fd, FunD K "next_word" "next_word" (defArgs (top 7)) (defBody (top 7)) (defScope (top 7)) [] [] (He.ga K "next_word") fd ∧ Binds K fd ["word"] [] ∧ FnG P w K mg base 1 (He.ga K "next_word") fd ["word"] (spG w K (tb K) f_next_word) := by
  obtain ⟨fd, F⟩ := y.t.df 4 (d := dfG "next_word" (top 7))
  have B : Binds K fd ["word"] [] := F.bindsN fun _ _ _ _ _ _ us hl => match us, hl with | [_], _ => rfl
  have hN : (["word", "kept"] : List Str).Nodup := by decide +kernel
  refine ⟨fd, F, B, fnG (N := ["word", "kept"]) (ps := ["word"]) (k := 0) (fb := b_next_word) F ⟨rfl, rfl, rfl, hN, rfl, by decide +kernel, by decide +kernel⟩ (by decide) fun cdv A outer s H hr => ?_⟩
  exact (sss_cons (ss_if (st_cmp b2_lt truths_cmp (SV.so (sv_bi lenG_ok cr_lenG (by exact rfl) (y.free 1) (by decide +kernel) (slo_cons (so_name (i := 0) rfl (by first | exact .inl rfl | exact .inr (.inl rfl) | exact .inr (.inr rfl))) slo_nil))) (SV.so (sv_gint (by exact rfl) (y.int 4))) rfl) (sss_one (ss_ret (sv_bin b2_add (so_name (i := 0) rfl (by first | exact .inl rfl | exact .inr (.inl rfl) | exact .inr (.inr rfl))) (SV.so (sv_str (by rfl)))))) sss_nil)
  (sss_cons (ss_set (i := 1) hN rfl (by first | exact .inl rfl | exact .inr rfl) (sv_rstrip (so_name (i := 0) rfl (by first | exact .inl rfl | exact .inr (.inl rfl) | exact .inr (.inr rfl))) (sv_str (by rfl))))
  (sss_one (ss_ret (sv_if (st_cmp (b2_ne (hr.un 64 (by decide))) truths_ne (so_name (i := 1) rfl (by first | exact .inl rfl | exact .inr (.inl rfl) | exact .inr (.inr rfl))) (SV.so (sv_str (by rfl))) rfl) (sv_bin b2_add (SV.so (sv_slice (so_name (i := 1) rfl (by first | exact .inl rfl | exact .inr (.inl rfl) | exact .inr (.inr rfl))) sp_none (sp_some (SV.so (sv_neg sv_int))))) (SV.so (sv_ix (hr.un 65 (by decide)) (SV.so (sv_gstrL (by exact rfl) (y.str 5) (by rfl))) (SV.so (sv_bin b2_add (SV.so (sv_index (SV.so (sv_gstrL (by exact rfl) (y.str 5) (by rfl))) (sv_ix (hr.un 65 (by decide)) (so_name (i := 1) rfl (by first | exact .inl rfl | exact .inr (.inl rfl) | exact .inr (.inr rfl))) (SV.so (sv_neg sv_int)) (fun _ _ => rfl)))) (SV.so sv_int))) (fun _ _ => rfl)))) sv_non)))))
def b_strange_word_l1 : Sx := (setS 1 (callE f_next_word [] (consA (nameV 1) nilA)))
def b_strange_word : Sx := (seqS (setS 1 (constE (.str [97])))
  (seqS (whileS (truT (bin2 inD (nameO 1) (nameO 0))) b_strange_word_l1)
  (retS (nameV 1))))
def f_strange_word : Fn := runF 2 1 b_strange_word
theorem ok_strange_word (y : Hy K mg) : ∃ fd, FunD K "strange_word" "strange_word" (defArgs (top 8)) (defBody (top 8)) (defScope (top 8)) [] [] (He.ga K "strange_word") fd ∧ Binds K fd ["words"] [] ∧ FnG P w K mg base 2 (He.ga K "strange_word") fd ["words"] (spG w K (tb K) f_strange_word) := by
  obtain ⟨_, F_next_word, B_next_word, G_next_word⟩ := ok_next_word (P := P) (w := w) (base := base) y
  obtain ⟨fd, F⟩ := y.t.df 5 (d := dfG "strange_word" (top 8))
  have B : Binds K fd ["words"] [] := F.bindsN fun _ _ _ _ _ _ us hl => match us, hl with | [_], _ => rfl
  have hN : (["words", "word"] : List Str).Nodup := by decide +kernel
  refine ⟨fd, F, B, fnG (N := ["words", "word"]) (ps := ["words"]) (k := 1) (fb := b_strange_word) F ⟨rfl, rfl, rfl, hN, rfl, by decide +kernel, by decide +kernel⟩ (by decide) fun cdv A outer s H hr => ?_⟩
  exact (sss_cons (ss_set (i := 1) hN rfl (by first | exact .inl rfl | exact .inr rfl) (sv_str (by rfl)))
  (sss_cons (ss_while (passes_of rfl) (st_cmp (b2_in (hr.un 65 (by decide))) truths_in (so_name (i := 1) rfl (by first | exact .inl rfl | exact .inr (.inl rfl) | exact .inr (.inr rfl))) (so_name (i := 0) rfl (by first | exact .inl rfl | exact .inr (.inl rfl) | exact .inr (.inr rfl))) rfl) (sss_one (ss_set (i := 1) hN rfl (by first | exact .inl rfl | exact .inr rfl) (sv_call_of (dvs := []) (pe_cg G_next_word (hr.mono (by decide)) (by exact rfl) (y.glo 6) F_next_word.kp B_next_word .nil (sl_cons (sv_name (i := 1) rfl (by first | exact .inl rfl | exact .inr (.inl rfl) | exact .inr (.inr rfl))) sl_nil)) Dfl.nil))))
  (sss_one (ss_ret (sv_name (i := 1) rfl (by first | exact .inl rfl | exact .inr (.inl rfl) | exact .inr (.inr rfl)))))))
def b__law_choose : Sx := (retS (bin2 ixD (nameO 1) (callE f__law_draw [] (consA (nameV 0) (consA (biE lenGO (consA (nameO 1) nilA)) nilA)))))
def f__law_choose : Fn := runF 2 2 b__law_choose
theorem ok__law_choose (y : Hy K mg) : ∃ fd, FunD K "_law_choose" "_law_choose" (defArgs (top 12)) (defBody (top 12)) (defScope (top 12)) [] [] (He.ga K "_law_choose") fd ∧ Binds K fd ["_law_well_here", "_law_things"] [] ∧ FnG P w K mg base 2 (He.ga K "_law_choose") fd ["_law_well_here", "_law_things"] (spG w K (tb K) f__law_choose) := by
  obtain ⟨_, F__law_draw, B__law_draw, G__law_draw⟩ := ok__law_draw (P := P) (w := w) (base := base) y
  obtain ⟨fd, F⟩ := y.t.df 6 (d := dfG "_law_choose" (top 12))
  have B : Binds K fd ["_law_well_here", "_law_things"] [] := F.bindsN fun _ _ _ _ _ _ us hl => match us, hl with | [_, _], _ => rfl
  have hN : (["_law_well_here", "_law_things"] : List Str).Nodup := by decide +kernel
  refine ⟨fd, F, B, fnG (N := ["_law_well_here", "_law_things"]) (ps := ["_law_well_here", "_law_things"]) (k := 1) (fb := b__law_choose) F ⟨rfl, rfl, rfl, hN, rfl, by decide +kernel, by decide +kernel⟩ (by decide) fun cdv A outer s H hr => ?_⟩
  exact (sss_one (ss_ret (sv_ix (hr.un 65 (by decide)) (so_name (i := 1) rfl (by first | exact .inl rfl | exact .inr (.inl rfl) | exact .inr (.inr rfl))) (SV.so (sv_call_of (dvs := []) (pe_cg G__law_draw (hr.mono (by decide)) (by exact rfl) (y.glo 2) F__law_draw.kp B__law_draw .nil (sl_cons (sv_name (i := 0) rfl (by first | exact .inl rfl | exact .inr (.inl rfl) | exact .inr (.inr rfl))) (sl_cons (sv_bi lenG_ok cr_lenG (by exact rfl) (y.free 1) (by decide +kernel) (slo_cons (so_name (i := 1) rfl (by first | exact .inl rfl | exact .inr (.inl rfl) | exact .inr (.inr rfl))) slo_nil)) sl_nil))) Dfl.nil)) (fun _ _ => rfl))))
def b__law_address : Sx := (retS (biE tupleO (consA (frzE (lcF (rng1I (callE f__law_draw [] (consA (nameV 0) (consA (constE (.int 6)) nilA)))) [1] (nameG 1) yesT (callE f__law_choose [] (consA (nameV 0) (consA (frzE (lstF (consA (constE (.str [97])) (consA (constE (.str [97, 97])) (consA (constE (.str [98])) (consA (constE (.str [97, 98])) (consA (constE (.str [122])) nilA))))))) nilA))))) nilA)))
def f__law_address : Fn := runF 2 1 b__law_address
theorem ok__law_address (y : Hy K mg) : ∃ fd, FunD K "_law_address" "_law_address" (defArgs (top 13)) (defBody (top 13)) (defScope (top 13)) [] [] (He.ga K "_law_address") fd ∧ Binds K fd ["_law_well_here"] [] ∧ FnG P w K mg base 3 (He.ga K "_law_address") fd ["_law_well_here"] (spG w K (tb K) f__law_address) := by
  obtain ⟨_, F__law_choose, B__law_choose, G__law_choose⟩ := ok__law_choose (P := P) (w := w) (base := base) y
  obtain ⟨_, F__law_draw, B__law_draw, G__law_draw⟩ := ok__law_draw (P := P) (w := w) (base := base) y
  obtain ⟨fd, F⟩ := y.t.df 7 (d := dfG "_law_address" (top 13))
  have B : Binds K fd ["_law_well_here"] [] := F.bindsN fun _ _ _ _ _ _ us hl => match us, hl with | [_], _ => rfl
  have hN : (["_law_well_here", "_law_turn"] : List Str).Nodup := by decide +kernel
  refine ⟨fd, F, B, fnG (N := ["_law_well_here", "_law_turn"]) (ps := ["_law_well_here"]) (k := 2) (fb := b__law_address) F ⟨rfl, rfl, rfl, hN, rfl, by decide +kernel, by decide +kernel⟩ (by decide) fun cdv A outer s H hr => ?_⟩
  exact (sss_one (ss_ret (sv_ty tuple_ok call_tuple_of (by exact rfl) (y.free 8) (by decide +kernel) (slo_cons (SV.so (SF.sv (sf_lc rfl hN (si_range1 (by exact rfl) (y.free 3) (sv_call_of (dvs := []) (pe_cg G__law_draw (hr.mono (by decide)) (by exact rfl) (y.glo 2) F__law_draw.kp B__law_draw .nil (sl_cons (sv_name (i := 0) rfl (by first | exact .inl rfl | exact .inr (.inl rfl) | exact .inr (.inr rfl))) (sl_cons sv_int sl_nil))) Dfl.nil)) (blk_ok (own := [("_law_turn", 1)]) (by kernel_rfl)) (by decide) (fun _ _ _ _ _ => (sg_name (i := 1) hN rfl (by first | exact .inl rfl | exact .inr rfl))) (fun _ _ _ _ _ => sts_nil) (fun _ _ _ _ _ => (sv_call_of (dvs := []) (pe_cg G__law_choose (hr.mono (by decide)) (by exact rfl) (y.glo 7) F__law_choose.kp B__law_choose .nil (sl_cons (sv_name (i := 0) rfl (by first | exact .inl rfl | exact .inr (.inl rfl) | exact .inr (.inr rfl))) (sl_cons (SF.sv (sf_lst (sl_cons (sv_str (by rfl)) (sl_cons (sv_str (by rfl)) (sl_cons (sv_str (by rfl)) (sl_cons (sv_str (by rfl)) (sl_cons (sv_str (by rfl)) sl_nil))))))) sl_nil))) Dfl.nil))))) slo_nil))))
def b_beginnings : Sx := (retS (frzE (lcF (rng1I (bin2 addD (biE lenGO (consA (nameO 0) nilA)) (constE (.int 1)))) [1] (nameG 1) yesT (slcE (nameO 0) noP (someP (nameO 1))))))
def f_beginnings : Fn := runF 2 1 b_beginnings
theorem ok_beginnings (y : Hy K mg) : ∃ fd, FunD K "beginnings" "beginnings" (defArgs (top 6)) (defBody (top 6)) (defScope (top 6)) [] [] (He.ga K "beginnings") fd ∧ Binds K fd ["address"] [] ∧ FnG P w K mg base 1 (He.ga K "beginnings") fd ["address"] (spG w K (tb K) f_beginnings) := by
  obtain ⟨fd, F⟩ := y.t.df 8 (d := dfG "beginnings" (top 6))
  have B : Binds K fd ["address"] [] := F.bindsN fun _ _ _ _ _ _ us hl => match us, hl with | [_], _ => rfl
  have hN : (["address", "count"] : List Str).Nodup := by decide +kernel
  refine ⟨fd, F, B, fnG (N := ["address", "count"]) (ps := ["address"]) (k := 0) (fb := b_beginnings) F ⟨rfl, rfl, rfl, hN, rfl, by decide +kernel, by decide +kernel⟩ (by decide) fun cdv A outer s H hr => ?_⟩
  exact (sss_one (ss_ret (SF.sv (sf_lc rfl hN (si_range1 (by exact rfl) (y.free 3) (sv_bin b2_add (SV.so (sv_bi lenG_ok cr_lenG (by exact rfl) (y.free 1) (by decide +kernel) (slo_cons (so_name (i := 0) rfl (by first | exact .inl rfl | exact .inr (.inl rfl) | exact .inr (.inr rfl))) slo_nil))) (SV.so sv_int))) (blk_ok (own := [("count", 1)]) (by kernel_rfl)) (by decide) (fun _ _ _ _ _ => (sg_name (i := 1) hN rfl (by first | exact .inl rfl | exact .inr rfl))) (fun _ _ _ _ _ => sts_nil) (fun _ _ _ _ _ => (sv_slice (so_name (i := 0) rfl (by first | exact .inl rfl | exact .inr (.inl rfl) | exact .inr (.inr rfl))) sp_none (sp_some (so_name (i := 1) rfl (by first | exact .inl rfl | exact .inr (.inl rfl) | exact .inr (.inr rfl))))))))))
def b__law_before_l1 : Sx := (ifS (truT (bin2 neD (nameO 2) (nameO 3))) (retS (bin2 ltD (nameO 2) (nameO 3))) nextS)
def b__law_before : Sx := (seqS (ifS (truT (bin2 neD (biE lenGO (consA (nameO 0) nilA)) (biE lenGO (consA (nameO 1) nilA)))) (retS (bin2 ltD (biE lenGO (consA (nameO 0) nilA)) (biE lenGO (consA (nameO 1) nilA)))) nextS)
  (seqS (forS (zipTI (nameV 0) (nameV 1)) (tupG (consG (nameG 2) (consG (nameG 3) nilG))) b__law_before_l1)
  (retS (constE (.bl false)))))
def f__law_before : Fn := runF 4 2 b__law_before
theorem ok__law_before (y : Hy K mg) : ∃ fd, FunD K "_law_before" "_law_before" (defArgs (top 14)) (defBody (top 14)) (defScope (top 14)) [] [] (He.ga K "_law_before") fd ∧ Binds K fd ["_law_one", "_law_other"] [] ∧ FnG P w K mg base 1 (He.ga K "_law_before") fd ["_law_one", "_law_other"] (spG w K (tb K) f__law_before) := by
  obtain ⟨fd, F⟩ := y.t.df 9 (d := dfG "_law_before" (top 14))
  have B : Binds K fd ["_law_one", "_law_other"] [] := F.bindsN fun _ _ _ _ _ _ us hl => match us, hl with | [_, _], _ => rfl
  have hN : (["_law_one", "_law_other", "_law_first", "_law_second"] : List Str).Nodup := by decide +kernel
  refine ⟨fd, F, B, fnG (N := ["_law_one", "_law_other", "_law_first", "_law_second"]) (ps := ["_law_one", "_law_other"]) (k := 0) (fb := b__law_before) F ⟨rfl, rfl, rfl, hN, rfl, by decide +kernel, by decide +kernel⟩ (by decide) fun cdv A outer s H hr => ?_⟩
  exact (sss_cons (ss_if (st_cmp (b2_ne (hr.un 64 (by decide))) truths_ne (SV.so (sv_bi lenG_ok cr_lenG (by exact rfl) (y.free 1) (by decide +kernel) (slo_cons (so_name (i := 0) rfl (by first | exact .inl rfl | exact .inr (.inl rfl) | exact .inr (.inr rfl))) slo_nil))) (SV.so (sv_bi lenG_ok cr_lenG (by exact rfl) (y.free 1) (by decide +kernel) (slo_cons (so_name (i := 1) rfl (by first | exact .inl rfl | exact .inr (.inl rfl) | exact .inr (.inr rfl))) slo_nil))) rfl) (sss_one (ss_ret (sv_cmp b2_lt (SV.so (sv_bi lenG_ok cr_lenG (by exact rfl) (y.free 1) (by decide +kernel) (slo_cons (so_name (i := 0) rfl (by first | exact .inl rfl | exact .inr (.inl rfl) | exact .inr (.inr rfl))) slo_nil))) (SV.so (sv_bi lenG_ok cr_lenG (by exact rfl) (y.free 1) (by decide +kernel) (slo_cons (so_name (i := 1) rfl (by first | exact .inl rfl | exact .inr (.inl rfl) | exact .inr (.inr rfl))) slo_nil))) rfl))) sss_nil)
  (sss_cons (ss_for (passes_of rfl) rfl (si_zipT (by exact rfl) (y.free 9) (sv_name (i := 0) rfl (by first | exact .inl rfl | exact .inr (.inl rfl) | exact .inr (.inr rfl))) (sv_name (i := 1) rfl (by first | exact .inl rfl | exact .inr (.inl rfl) | exact .inr (.inr rfl)))) (sg_tup rfl (sgs_cons (sg_name (i := 2) hN rfl (by first | exact .inl rfl | exact .inr rfl)) (sgs_cons (sg_name (i := 3) hN rfl (by first | exact .inl rfl | exact .inr rfl)) sgs_nil)) rfl rfl (consG_len (consG_len nilG_len nameG_no) nameG_no)) (sss_one (ss_if (st_cmp (b2_ne (hr.un 64 (by decide))) truths_ne (so_name (i := 2) rfl (by first | exact .inl rfl | exact .inr (.inl rfl) | exact .inr (.inr rfl))) (so_name (i := 3) rfl (by first | exact .inl rfl | exact .inr (.inl rfl) | exact .inr (.inr rfl))) rfl) (sss_one (ss_ret (sv_cmp b2_lt (so_name (i := 2) rfl (by first | exact .inl rfl | exact .inr (.inl rfl) | exact .inr (.inr rfl))) (so_name (i := 3) rfl (by first | exact .inl rfl | exact .inr (.inl rfl) | exact .inr (.inr rfl))) rfl))) sss_nil)))
  (sss_one (ss_ret sv_bl))))
def b_begins : Sx := (retS (bin2 eqD (slcE (nameO 0) noP (someP (biE lenGO (consA (nameO 1) nilA)))) (nameO 1)))
def f_begins : Fn := runF 2 2 b_begins
theorem ok_begins (y : Hy K mg) : ∃ fd, FunD K "begins" "begins" (defArgs (top 3)) (defBody (top 3)) (defScope (top 3)) [] [] (He.ga K "begins") fd ∧ Binds K fd ["address", "beginning"] [] ∧ FnG P w K mg base 1 (He.ga K "begins") fd ["address", "beginning"] (spG w K (tb K) f_begins) := by
  obtain ⟨fd, F⟩ := y.t.df 10 (d := dfG "begins" (top 3))
  have B : Binds K fd ["address", "beginning"] [] := F.bindsN fun _ _ _ _ _ _ us hl => match us, hl with | [_, _], _ => rfl
  have hN : (["address", "beginning"] : List Str).Nodup := by decide +kernel
  refine ⟨fd, F, B, fnG (N := ["address", "beginning"]) (ps := ["address", "beginning"]) (k := 0) (fb := b_begins) F ⟨rfl, rfl, rfl, hN, rfl, by decide +kernel, by decide +kernel⟩ (by decide) fun cdv A outer s H hr => ?_⟩
  exact (sss_one (ss_ret (sv_cmp (b2_eq (hr.un 64 (by decide))) (SV.so (sv_slice (so_name (i := 0) rfl (by first | exact .inl rfl | exact .inr (.inl rfl) | exact .inr (.inr rfl))) sp_none (sp_some (SV.so (sv_bi lenG_ok cr_lenG (by exact rfl) (y.free 1) (by decide +kernel) (slo_cons (so_name (i := 1) rfl (by first | exact .inl rfl | exact .inr (.inl rfl) | exact .inr (.inr rfl))) slo_nil)))))) (so_name (i := 1) rfl (by first | exact .inl rfl | exact .inr (.inl rfl) | exact .inr (.inr rfl))) rfl)))
def b_rest_of : Sx := (retS (slcE (nameO 0) (someP (biE lenGO (consA (nameO 1) nilA))) noP))
def f_rest_of : Fn := runF 2 2 b_rest_of
theorem ok_rest_of (y : Hy K mg) : ∃ fd, FunD K "rest_of" "rest_of" (defArgs (top 4)) (defBody (top 4)) (defScope (top 4)) [] [] (He.ga K "rest_of") fd ∧ Binds K fd ["address", "beginning"] [] ∧ FnG P w K mg base 1 (He.ga K "rest_of") fd ["address", "beginning"] (spG w K (tb K) f_rest_of) := by
  obtain ⟨fd, F⟩ := y.t.df 11 (d := dfG "rest_of" (top 4))
  have B : Binds K fd ["address", "beginning"] [] := F.bindsN fun _ _ _ _ _ _ us hl => match us, hl with | [_, _], _ => rfl
  have hN : (["address", "beginning"] : List Str).Nodup := by decide +kernel
  refine ⟨fd, F, B, fnG (N := ["address", "beginning"]) (ps := ["address", "beginning"]) (k := 0) (fb := b_rest_of) F ⟨rfl, rfl, rfl, hN, rfl, by decide +kernel, by decide +kernel⟩ (by decide) fun cdv A outer s H hr => ?_⟩
  exact (sss_one (ss_ret (sv_slice (so_name (i := 0) rfl (by first | exact .inl rfl | exact .inr (.inl rfl) | exact .inr (.inr rfl))) (sp_some (SV.so (sv_bi lenG_ok cr_lenG (by exact rfl) (y.free 1) (by decide +kernel) (slo_cons (so_name (i := 1) rfl (by first | exact .inl rfl | exact .inr (.inl rfl) | exact .inr (.inr rfl))) slo_nil)))) sp_none)))
def b_address_key : Sx := (retS (tupE (consA (biE lenGO (consA (nameO 0) nilA)) (consA (nameV 0) nilA))))
def f_address_key : Fn := runF 1 1 b_address_key
theorem ok_address_key (y : Hy K mg) : ∃ fd, FunD K "address_key" "address_key" (defArgs (top 5)) (defBody (top 5)) (defScope (top 5)) [] [] (He.ga K "address_key") fd ∧ Binds K fd ["address"] [] ∧ FnG P w K mg base 1 (He.ga K "address_key") fd ["address"] (spG w K (tb K) f_address_key) := by
  obtain ⟨fd, F⟩ := y.t.df 12 (d := dfG "address_key" (top 5))
  have B : Binds K fd ["address"] [] := F.bindsN fun _ _ _ _ _ _ us hl => match us, hl with | [_], _ => rfl
  have hN : (["address"] : List Str).Nodup := by decide +kernel
  refine ⟨fd, F, B, fnG (N := ["address"]) (ps := ["address"]) (k := 0) (fb := b_address_key) F ⟨rfl, rfl, rfl, hN, rfl, by decide +kernel, by decide +kernel⟩ (by decide) fun cdv A outer s H hr => ?_⟩
  exact (sss_one (ss_ret (sv_tup (sl_cons (sv_bi lenG_ok cr_lenG (by exact rfl) (y.free 1) (by decide +kernel) (slo_cons (so_name (i := 0) rfl (by first | exact .inl rfl | exact .inr (.inl rfl) | exact .inr (.inr rfl))) slo_nil)) (sl_cons (sv_name (i := 0) rfl (by first | exact .inl rfl | exact .inr (.inl rfl) | exact .inr (.inr rfl))) sl_nil)))))
def b_law_l1 : Sx := (seqS (setS 8 (andV (bin2 leD (biE lenGO (consA (nameO 7) nilA)) (biE lenGO (consA (nameO 5) nilA))) (bin2 eqD (slcE (biE listGO (consA (nameO 5) nilA)) noP (someP (biE lenGO (consA (nameO 7) nilA)))) (biE listGO (consA (nameO 7) nilA)))))
  (seqS (ifS (truT (bin2 neD (biE reprGO (consA (callE f_begins [] (consA (nameV 5) (consA (nameV 7) nilA))) nilA)) (biE reprGO (consA (nameO 8) nilA)))) (retS (constE (.bl false))) nextS)
  (seqS (ifS (andT (truT (nameO 8)) (truT (bin2 neD (callE f_rest_of [] (consA (nameV 5) (consA (nameV 7) nilA))) (biE tupleO (consA (slcE (biE listGO (consA (nameO 5) nilA)) (someP (biE lenGO (consA (nameO 7) nilA))) noP) nilA))))) (retS (constE (.bl false))) nextS)
  (seqS (ifS (notT (truT (isiE (ansI "tuple") (callE f_address_key [] (consA (nameV 5) nilA))))) (retS (constE (.bl false))) nextS)
  (ifS (truT (bin2 neD (bin2 ltGD (callE f_address_key [] (consA (nameV 5) nilA)) (callE f_address_key [] (consA (nameV 7) nilA))) (callE f__law_before [] (consA (nameV 5) (consA (nameV 7) nilA))))) (retS (constE (.bl false))) nextS)))))
def b_law_l2 : Sx := (seqS (ifS (truT (bin2 neD (callE f_beginnings [] (consA (nameV 5) nilA)) (frzE (lcF (rng1I (bin2 addD (biE lenGO (consA (nameO 5) nilA)) (constE (.int 1)))) [6] (nameG 6) yesT (slcE (nameO 5) noP (someP (nameO 6))))))) (retS (constE (.bl false))) nextS)
  (forS (ltI (nameV 3)) (nameG 7) b_law_l1))
def b_law_l3 : Sx := (seqS (setS 2 (callE f__law_well [] (consA (nameV 0) (consA (nameV 1) nilA))))
  (seqS (ownS 3 (lcF (rng1I (constE (.int 6))) [4] (nameG 4) yesT (callE f__law_address [] (consA (nameV 2) nilA))))
  (seqS (exprS (mthE "list" appendM (nameO 3) (consA (bin2 addD (bin2 ixD (nameO 3) (constE (.int 0))) (bin2 ixD (nameO 3) (constE (.int 1)))) nilA)))
  (seqS (forS (ltI (nameV 3)) (nameG 5) b_law_l2)
  (seqS (setS 9 (callE f__law_words [] (consA (nameV 2) nilA)))
  (seqS (setS 10 (frzE (listF (nameO 9))))
  (seqS (setS 8 (callE f__law_strange [] (consA (nameV 9) nilA)))
  (ifS (orT (truT (bin2 neD (callE f_strange_word [] (consA (nameV 9) nilA)) (nameO 8))) (orT (truT (bin2 neD (callE f_strange_word [] (consA (biE tupleO (consA (nameO 9) nilA)) nilA)) (nameO 8))) (truT (bin2 neD (nameO 9) (nameO 10))))) (retS (constE (.bl false))) nextS))))))))
def b_law_s0 : Sx := (forS (rng1I (biE max2O (consA (constE (.int 2)) (consA (biE leastO (consA (constE (.int 5)) (consA (biE lenGO (consA (nameO 0) nilA)) nilA))) nilA)))) (nameG 1) b_law_l3)
def b_law_s1 : Sx := (setS 11 (bin2 addD (frzE (lcF (rng2I (constE (.int 1)) (constE (.int 13))) [6] (nameG 6) yesT (bin2 mulSD (constE (.str [97])) (nameO 6)))) (frzE (lcF (strI (constE (.str [98, 99, 100, 101, 102, 103, 104, 105, 106, 107, 108, 109, 110, 111, 112, 113, 114, 115, 116, 117, 118, 119, 120, 121, 122]))) [12] (nameG 12) yesT (bin2 addD (constE (.str [97, 97, 97, 97, 97, 97, 97, 97, 97, 97, 97])) (nameO 12))))))
def b_law_s2 : Sx := (ifS (truT (bin2 neD (callE f_strange_word [] (consA (bin2 addD (nameO 11) (frzE (lstF (consA (constE (.str [97, 97, 97, 97, 97, 97, 97, 97, 97, 97, 98])) nilA)))) nilA)) (constE (.str [97, 97, 97, 97, 97, 97, 97, 97, 97, 97, 98, 97])))) (retS (constE (.bl false))) nextS)
def b_law_s3 : Sx := (retS (andV (bin2 eqD (callE f_strange_word [] (consA (frzE (lstF nilA)) nilA)) (constE (.str [97]))) (andV (bin2 eqD (callE f_strange_word [] (consA (frzE (lstF (consA (constE (.str [98])) nilA))) nilA)) (constE (.str [97]))) (bin2 eqD (callE f_strange_word [] (consA (nameV 11) nilA)) (constE (.str [97, 97, 97, 97, 97, 97, 97, 97, 97, 97, 98]))))))
def b_law_t3 : Sx := b_law_s3
def b_law_t2 : Sx := seqS b_law_s2 b_law_t3
def b_law_t1 : Sx := seqS b_law_s1 b_law_t2
def b_law_t0 : Sx := seqS b_law_s0 b_law_t1
def b_law : Sx := b_law_t0
def f_law : Fn := runF 13 1 b_law
theorem ok_law (y : Hy K mg) : ∃ fd, FunD K "law" "law" (defArgs (top 17)) (defBody (top 17)) (defScope (top 17)) [] [] (He.ga K "law") fd ∧ Binds K fd ["_law_script"] [] ∧ FnG P w K mg base 4 (He.ga K "law") fd ["_law_script"] (spG w K (tb K) f_law) := by
  obtain ⟨_, F__law_well, B__law_well, G__law_well⟩ := ok__law_well (P := P) (w := w) (base := base) y
  obtain ⟨_, F__law_words, B__law_words, G__law_words⟩ := ok__law_words (P := P) (w := w) (base := base) y
  obtain ⟨_, F__law_strange, B__law_strange, G__law_strange⟩ := ok__law_strange (P := P) (w := w) (base := base) y
  obtain ⟨_, F_strange_word, B_strange_word, G_strange_word⟩ := ok_strange_word (P := P) (w := w) (base := base) y
  obtain ⟨_, F__law_address, B__law_address, G__law_address⟩ := ok__law_address (P := P) (w := w) (base := base) y
  obtain ⟨_, F_beginnings, B_beginnings, G_beginnings⟩ := ok_beginnings (P := P) (w := w) (base := base) y
  obtain ⟨_, F__law_before, B__law_before, G__law_before⟩ := ok__law_before (P := P) (w := w) (base := base) y
  obtain ⟨_, F_begins, B_begins, G_begins⟩ := ok_begins (P := P) (w := w) (base := base) y
  obtain ⟨_, F_rest_of, B_rest_of, G_rest_of⟩ := ok_rest_of (P := P) (w := w) (base := base) y
  obtain ⟨_, F_address_key, B_address_key, G_address_key⟩ := ok_address_key (P := P) (w := w) (base := base) y
  obtain ⟨fd, F⟩ := y.t.df 13 (d := dfG "law" (top 17))
  have B : Binds K fd ["_law_script"] [] := F.bindsN fun _ _ _ _ _ _ us hl => match us, hl with | [_], _ => rfl
  have hN : (["_law_script", "_law_start", "_law_well_here", "_law_some", "_law_turn", "_law_one", "_law_count", "_law_other", "_law_due", "_law_words_here", "_law_seen", "_law_line", "_law_sign"] : List Str).Nodup := by decide +kernel
  refine ⟨fd, F, B, fnG (N := ["_law_script", "_law_start", "_law_well_here", "_law_some", "_law_turn", "_law_one", "_law_count", "_law_other", "_law_due", "_law_words_here", "_law_seen", "_law_line", "_law_sign"]) (ps := ["_law_script"]) (k := 3) (fb := b_law) F ⟨rfl, rfl, rfl, hN, rfl, by decide +kernel, by decide +kernel⟩ (by decide) fun cdv A outer s H hr => ?_⟩
  exact (sss_cons (ss_for (passes_of rfl) rfl (si_range1 (by exact rfl) (y.free 3) (sv_bi max2_ok (call_max2 rfl) (by exact rfl) (y.free 11) (by decide +kernel) (slo_cons (SV.so sv_int) (slo_cons (SV.so (sv_bi least_ok (cr_least rfl (hr.un 60 (by decide))) (by exact rfl) (y.free 10) (by decide +kernel) (slo_cons (SV.so sv_int) (slo_cons (SV.so (sv_bi lenG_ok cr_lenG (by exact rfl) (y.free 1) (by decide +kernel) (slo_cons (so_name (i := 0) rfl (by first | exact .inl rfl | exact .inr (.inl rfl) | exact .inr (.inr rfl))) slo_nil))) slo_nil)))) slo_nil)))) (sg_name (i := 1) hN rfl (by first | exact .inl rfl | exact .inr rfl)) (sss_cons (ss_set (i := 2) hN rfl (by first | exact .inl rfl | exact .inr rfl) (sv_call_of (dvs := []) (pe_cg G__law_well (hr.mono (by decide)) (by exact rfl) (y.glo 12) F__law_well.kp B__law_well .nil (sl_cons (sv_name (i := 0) rfl (by first | exact .inl rfl | exact .inr (.inl rfl) | exact .inr (.inr rfl))) (sl_cons (sv_name (i := 1) rfl (by first | exact .inl rfl | exact .inr (.inl rfl) | exact .inr (.inr rfl))) sl_nil))) Dfl.nil))
  (sss_cons (ss_ownLc (i := 3) rfl hN rfl rfl rfl (si_range1 (by exact rfl) (y.free 3) sv_int) (blk_ok (own := [("_law_turn", 4)]) (by kernel_rfl)) (by decide) (fun _ _ _ _ _ => (sg_name (i := 4) hN rfl (by first | exact .inl rfl | exact .inr rfl))) (fun _ _ _ _ _ => sts_nil) (fun _ _ _ _ _ => (sv_call_of (dvs := []) (pe_cg G__law_address (hr.mono (by decide)) (by exact rfl) (y.glo 13) F__law_address.kp B__law_address .nil (sl_cons (sv_name (i := 2) rfl (by first | exact .inl rfl | exact .inr (.inl rfl) | exact .inr (.inr rfl))) sl_nil)) Dfl.nil)))
  (sss_cons (ss_expr (SV.so (sv_append (so_name (i := 3) rfl (by first | exact .inl rfl | exact .inr (.inl rfl) | exact .inr (.inr rfl))) (sv_bin b2_add (SV.so (sv_ix (hr.un 65 (by decide)) (so_name (i := 3) rfl (by first | exact .inl rfl | exact .inr (.inl rfl) | exact .inr (.inr rfl))) (SV.so sv_int) (fun _ _ => rfl))) (SV.so (sv_ix (hr.un 65 (by decide)) (so_name (i := 3) rfl (by first | exact .inl rfl | exact .inr (.inl rfl) | exact .inr (.inr rfl))) (SV.so sv_int) (fun _ _ => rfl)))))))
  (sss_cons (ss_for (passes_of rfl) rfl (si_lt (sv_name (i := 3) rfl (by first | exact .inl rfl | exact .inr (.inl rfl) | exact .inr (.inr rfl)))) (sg_name (i := 5) hN rfl (by first | exact .inl rfl | exact .inr rfl)) (sss_cons (ss_if (st_cmp (b2_ne (hr.un 64 (by decide))) truths_ne (SV.so (sv_call_of (dvs := []) (pe_cg G_beginnings (hr.mono (by decide)) (by exact rfl) (y.glo 14) F_beginnings.kp B_beginnings .nil (sl_cons (sv_name (i := 5) rfl (by first | exact .inl rfl | exact .inr (.inl rfl) | exact .inr (.inr rfl))) sl_nil)) Dfl.nil)) (SV.so (SF.sv (sf_lc rfl hN (si_range1 (by exact rfl) (y.free 3) (sv_bin b2_add (SV.so (sv_bi lenG_ok cr_lenG (by exact rfl) (y.free 1) (by decide +kernel) (slo_cons (so_name (i := 5) rfl (by first | exact .inl rfl | exact .inr (.inl rfl) | exact .inr (.inr rfl))) slo_nil))) (SV.so sv_int))) (blk_ok (own := [("_law_count", 6)]) (by kernel_rfl)) (by decide) (fun _ _ _ _ _ => (sg_name (i := 6) hN rfl (by first | exact .inl rfl | exact .inr rfl))) (fun _ _ _ _ _ => sts_nil) (fun _ _ _ _ _ => (sv_slice (so_name (i := 5) rfl (by first | exact .inl rfl | exact .inr (.inl rfl) | exact .inr (.inr rfl))) sp_none (sp_some (so_name (i := 6) rfl (by first | exact .inl rfl | exact .inr (.inl rfl) | exact .inr (.inr rfl))))))))) rfl) (sss_one (ss_ret sv_bl)) sss_nil)
  (sss_one (ss_for (passes_of rfl) rfl (si_lt (sv_name (i := 3) rfl (by first | exact .inl rfl | exact .inr (.inl rfl) | exact .inr (.inr rfl)))) (sg_name (i := 7) hN rfl (by first | exact .inl rfl | exact .inr rfl)) (sss_cons (ss_set (i := 8) hN rfl (by first | exact .inl rfl | exact .inr rfl) (sv_and (sv_cmp b2_le (SV.so (sv_bi lenG_ok cr_lenG (by exact rfl) (y.free 1) (by decide +kernel) (slo_cons (so_name (i := 7) rfl (by first | exact .inl rfl | exact .inr (.inl rfl) | exact .inr (.inr rfl))) slo_nil))) (SV.so (sv_bi lenG_ok cr_lenG (by exact rfl) (y.free 1) (by decide +kernel) (slo_cons (so_name (i := 5) rfl (by first | exact .inl rfl | exact .inr (.inl rfl) | exact .inr (.inr rfl))) slo_nil))) rfl) (sv_one (sv_cmp (b2_eq (hr.un 64 (by decide))) (SV.so (sv_slice (SV.so (sv_ty listG_ok (cr_listG rfl) (by exact rfl) (y.free 15) (by decide +kernel) (slo_cons (so_name (i := 5) rfl (by first | exact .inl rfl | exact .inr (.inl rfl) | exact .inr (.inr rfl))) slo_nil))) sp_none (sp_some (SV.so (sv_bi lenG_ok cr_lenG (by exact rfl) (y.free 1) (by decide +kernel) (slo_cons (so_name (i := 7) rfl (by first | exact .inl rfl | exact .inr (.inl rfl) | exact .inr (.inr rfl))) slo_nil)))))) (SV.so (sv_ty listG_ok (cr_listG rfl) (by exact rfl) (y.free 15) (by decide +kernel) (slo_cons (so_name (i := 7) rfl (by first | exact .inl rfl | exact .inr (.inl rfl) | exact .inr (.inr rfl))) slo_nil))) rfl))))
  (sss_cons (ss_if (st_cmp (b2_ne (hr.un 64 (by decide))) truths_ne (SV.so (sv_bi reprG_ok (call_reprG hr.g (hr.un 64 (by decide))) (by exact rfl) (y.free 17) (by decide +kernel) (slo_cons (SV.so (sv_call_of (dvs := []) (pe_cg G_begins (hr.mono (by decide)) (by exact rfl) (y.glo 16) F_begins.kp B_begins .nil (sl_cons (sv_name (i := 5) rfl (by first | exact .inl rfl | exact .inr (.inl rfl) | exact .inr (.inr rfl))) (sl_cons (sv_name (i := 7) rfl (by first | exact .inl rfl | exact .inr (.inl rfl) | exact .inr (.inr rfl))) sl_nil))) Dfl.nil)) slo_nil))) (SV.so (sv_bi reprG_ok (call_reprG hr.g (hr.un 64 (by decide))) (by exact rfl) (y.free 17) (by decide +kernel) (slo_cons (so_name (i := 8) rfl (by first | exact .inl rfl | exact .inr (.inl rfl) | exact .inr (.inr rfl))) slo_nil))) rfl) (sss_one (ss_ret sv_bl)) sss_nil)
  (sss_cons (ss_if (st_sw (sw_and (st_truth (so_name (i := 8) rfl (by first | exact .inl rfl | exact .inr (.inl rfl) | exact .inr (.inr rfl)))) (sw_and1 (st_cmp (b2_ne (hr.un 64 (by decide))) truths_ne (SV.so (sv_call_of (dvs := []) (pe_cg G_rest_of (hr.mono (by decide)) (by exact rfl) (y.glo 18) F_rest_of.kp B_rest_of .nil (sl_cons (sv_name (i := 5) rfl (by first | exact .inl rfl | exact .inr (.inl rfl) | exact .inr (.inr rfl))) (sl_cons (sv_name (i := 7) rfl (by first | exact .inl rfl | exact .inr (.inl rfl) | exact .inr (.inr rfl))) sl_nil))) Dfl.nil)) (SV.so (sv_ty tuple_ok call_tuple_of (by exact rfl) (y.free 8) (by decide +kernel) (slo_cons (SV.so (sv_slice (SV.so (sv_ty listG_ok (cr_listG rfl) (by exact rfl) (y.free 15) (by decide +kernel) (slo_cons (so_name (i := 5) rfl (by first | exact .inl rfl | exact .inr (.inl rfl) | exact .inr (.inr rfl))) slo_nil))) (sp_some (SV.so (sv_bi lenG_ok cr_lenG (by exact rfl) (y.free 1) (by decide +kernel) (slo_cons (so_name (i := 7) rfl (by first | exact .inl rfl | exact .inr (.inl rfl) | exact .inr (.inr rfl))) slo_nil)))) sp_none)) slo_nil))) rfl)))) (sss_one (ss_ret sv_bl)) sss_nil)
  (sss_cons (ss_if (st_not (st_truth (SV.so (sv_isT y.ki (by decide) (by decide +kernel) (SV.so (sv_call_of (dvs := []) (pe_cg G_address_key (hr.mono (by decide)) (by exact rfl) (y.glo 19) F_address_key.kp B_address_key .nil (sl_cons (sv_name (i := 5) rfl (by first | exact .inl rfl | exact .inr (.inl rfl) | exact .inr (.inr rfl))) sl_nil)) Dfl.nil)) (by exact rfl) (y.free 20) (by exact rfl) (y.free 8))))) (sss_one (ss_ret sv_bl)) sss_nil)
  (sss_one (ss_if (st_cmp (b2_ne (hr.un 64 (by decide))) truths_ne (SV.so (sv_cmp (b2_ltG (hr.un 64 (by decide))) (SV.so (sv_call_of (dvs := []) (pe_cg G_address_key (hr.mono (by decide)) (by exact rfl) (y.glo 19) F_address_key.kp B_address_key .nil (sl_cons (sv_name (i := 5) rfl (by first | exact .inl rfl | exact .inr (.inl rfl) | exact .inr (.inr rfl))) sl_nil)) Dfl.nil)) (SV.so (sv_call_of (dvs := []) (pe_cg G_address_key (hr.mono (by decide)) (by exact rfl) (y.glo 19) F_address_key.kp B_address_key .nil (sl_cons (sv_name (i := 7) rfl (by first | exact .inl rfl | exact .inr (.inl rfl) | exact .inr (.inr rfl))) sl_nil)) Dfl.nil)) rfl)) (SV.so (sv_call_of (dvs := []) (pe_cg G__law_before (hr.mono (by decide)) (by exact rfl) (y.glo 21) F__law_before.kp B__law_before .nil (sl_cons (sv_name (i := 5) rfl (by first | exact .inl rfl | exact .inr (.inl rfl) | exact .inr (.inr rfl))) (sl_cons (sv_name (i := 7) rfl (by first | exact .inl rfl | exact .inr (.inl rfl) | exact .inr (.inr rfl))) sl_nil))) Dfl.nil)) rfl) (sss_one (ss_ret sv_bl)) sss_nil))))))))))
  (sss_cons (ss_set (i := 9) hN rfl (by first | exact .inl rfl | exact .inr rfl) (sv_call_of (dvs := []) (pe_cg G__law_words (hr.mono (by decide)) (by exact rfl) (y.glo 22) F__law_words.kp B__law_words .nil (sl_cons (sv_name (i := 2) rfl (by first | exact .inl rfl | exact .inr (.inl rfl) | exact .inr (.inr rfl))) sl_nil)) Dfl.nil))
  (sss_cons (ss_set (i := 10) hN rfl (by first | exact .inl rfl | exact .inr rfl) (SF.sv (sf_list rfl (by exact rfl) (y.free 15) (so_name (i := 9) rfl (by first | exact .inl rfl | exact .inr (.inl rfl) | exact .inr (.inr rfl))))))
  (sss_cons (ss_set (i := 8) hN rfl (by first | exact .inl rfl | exact .inr rfl) (sv_call_of (dvs := []) (pe_cg G__law_strange (hr.mono (by decide)) (by exact rfl) (y.glo 23) F__law_strange.kp B__law_strange .nil (sl_cons (sv_name (i := 9) rfl (by first | exact .inl rfl | exact .inr (.inl rfl) | exact .inr (.inr rfl))) sl_nil)) Dfl.nil))
  (sss_one (ss_if (st_sw (sw_or (st_cmp (b2_ne (hr.un 64 (by decide))) truths_ne (SV.so (sv_call_of (dvs := []) (pe_cg G_strange_word (hr.mono (by decide)) (by exact rfl) (y.glo 24) F_strange_word.kp B_strange_word .nil (sl_cons (sv_name (i := 9) rfl (by first | exact .inl rfl | exact .inr (.inl rfl) | exact .inr (.inr rfl))) sl_nil)) Dfl.nil)) (so_name (i := 8) rfl (by first | exact .inl rfl | exact .inr (.inl rfl) | exact .inr (.inr rfl))) rfl) (sw_or (st_cmp (b2_ne (hr.un 64 (by decide))) truths_ne (SV.so (sv_call_of (dvs := []) (pe_cg G_strange_word (hr.mono (by decide)) (by exact rfl) (y.glo 24) F_strange_word.kp B_strange_word .nil (sl_cons (sv_ty tuple_ok call_tuple_of (by exact rfl) (y.free 8) (by decide +kernel) (slo_cons (so_name (i := 9) rfl (by first | exact .inl rfl | exact .inr (.inl rfl) | exact .inr (.inr rfl))) slo_nil)) sl_nil)) Dfl.nil)) (so_name (i := 8) rfl (by first | exact .inl rfl | exact .inr (.inl rfl) | exact .inr (.inr rfl))) rfl) (sw_or1 (st_cmp (b2_ne (hr.un 64 (by decide))) truths_ne (so_name (i := 9) rfl (by first | exact .inl rfl | exact .inr (.inl rfl) | exact .inr (.inr rfl))) (so_name (i := 10) rfl (by first | exact .inl rfl | exact .inr (.inl rfl) | exact .inr (.inr rfl))) rfl))))) (sss_one (ss_ret sv_bl)) sss_nil))))))))))
  (sss_cons (ss_set (i := 11) hN rfl (by first | exact .inl rfl | exact .inr rfl) (sv_bin b2_add (SV.so (SF.sv (sf_lc rfl hN (si_range2 (by exact rfl) (y.free 3) sv_int sv_int) (blk_ok (own := [("_law_count", 6)]) (by kernel_rfl)) (by decide) (fun _ _ _ _ _ => (sg_name (i := 6) hN rfl (by first | exact .inl rfl | exact .inr rfl))) (fun _ _ _ _ _ => sts_nil) (fun _ _ _ _ _ => (sv_bin b2_mulS (SV.so (sv_str (by rfl))) (so_name (i := 6) rfl (by first | exact .inl rfl | exact .inr (.inl rfl) | exact .inr (.inr rfl)))))))) (SV.so (SF.sv (sf_lc rfl hN (si_str (sv_str (by rfl))) (blk_ok (own := [("_law_sign", 12)]) (by kernel_rfl)) (by decide) (fun _ _ _ _ _ => (sg_name (i := 12) hN rfl (by first | exact .inl rfl | exact .inr rfl))) (fun _ _ _ _ _ => sts_nil) (fun _ _ _ _ _ => (sv_bin b2_add (SV.so (sv_str (by rfl))) (so_name (i := 12) rfl (by first | exact .inl rfl | exact .inr (.inl rfl) | exact .inr (.inr rfl))))))))))
  (sss_cons (ss_if (st_cmp (b2_ne (hr.un 64 (by decide))) truths_ne (SV.so (sv_call_of (dvs := []) (pe_cg G_strange_word (hr.mono (by decide)) (by exact rfl) (y.glo 24) F_strange_word.kp B_strange_word .nil (sl_cons (sv_bin b2_add (so_name (i := 11) rfl (by first | exact .inl rfl | exact .inr (.inl rfl) | exact .inr (.inr rfl))) (SV.so (SF.sv (sf_lst (sl_cons (sv_str (by rfl)) sl_nil))))) sl_nil)) Dfl.nil)) (SV.so (sv_str (by rfl))) rfl) (sss_one (ss_ret sv_bl)) sss_nil)
  (sss_one (ss_ret (sv_and (sv_cmp (b2_eq (hr.un 64 (by decide))) (SV.so (sv_call_of (dvs := []) (pe_cg G_strange_word (hr.mono (by decide)) (by exact rfl) (y.glo 24) F_strange_word.kp B_strange_word .nil (sl_cons (SF.sv (sf_lst sl_nil)) sl_nil)) Dfl.nil)) (SV.so (sv_str (by rfl))) rfl) (sv_and (sv_cmp (b2_eq (hr.un 64 (by decide))) (SV.so (sv_call_of (dvs := []) (pe_cg G_strange_word (hr.mono (by decide)) (by exact rfl) (y.glo 24) F_strange_word.kp B_strange_word .nil (sl_cons (SF.sv (sf_lst (sl_cons (sv_str (by rfl)) sl_nil))) sl_nil)) Dfl.nil)) (SV.so (sv_str (by rfl))) rfl) (sv_one (sv_cmp (b2_eq (hr.un 64 (by decide))) (SV.so (sv_call_of (dvs := []) (pe_cg G_strange_word (hr.mono (by decide)) (by exact rfl) (y.glo 24) F_strange_word.kp B_strange_word .nil (sl_cons (sv_name (i := 11) rfl (by first | exact .inl rfl | exact .inr (.inl rfl) | exact .inr (.inr rfl))) sl_nil)) Dfl.nil)) (SV.so (sv_str (by rfl))) rfl)))))))))
end
end K02

set_option Elab.async false
set_option linter.all false
set_option maxRecDepth 100000
set_option maxHeartbeats 0
namespace K02
open PySem PySem.Spec PyProof.Rows L2 G
theorem end_ {P : Program} {w : World} {K : PySem.W.Frag} {h : Heap} {mg : Str → Option Value} {f : Addr} (fin : ∀ ns : List Int, ns.length ≤ 63 → (∀ k ∈ ns, Builtin.Int.intBits k ≤ 1048576) → ∃ s, f_law [.scr ns] [] = .ok (.bl true) s) (X : K.In h) (Z : h.Ns mainGlobals mg) (hm : mg ("law" : Str) = some (.ref f)) (c : Told fa ex fn K) :
    ∃ (K : PySem.W.Frag) (fd : FuncData) (sp : Sp), K.In h ∧ (∀ (s : Shared) (u : Value), BindsTo s fd ⟨[u], []⟩ [("_law_script", u)]) ∧
        (∀ (H : Hp) (a : Addr) (ns : List Int), ns.length ≤ 63 → (∀ k ∈ ns, Builtin.Int.intBits k ≤ 1048576) → Only H → ScrR K H a ns → sp [.ref a] H (fun v _ => v = .bl true) E0) ∧
        ∀ base : Heap, K.In base → base.Ns mainGlobals mg → FnG P w K mg base 4 f fd ["_law_script"] sp := by
  have y : Hy K mg := ⟨c, h, X, Z⟩
  have e := hm.symm.trans (y.glo 25 (x := "law"))
  cases e
  obtain ⟨fd, F⟩ := y.t.df 13 (d := dfG "law" (top 17))
  refine ⟨K, fd, spG w K (tb K) f_law, X, fun s u => ?_, fun H a ns hl hb _ hS => law_sp (sto := []) hS (fin ns hl hb), fun base _ _ => ?_⟩
  · exact FunD.bindsA (ps := ["_law_script"]) F (fun _ _ _ _ _ _ us hl => match us, hl with | [_], _ => rfl) s [u] rfl
  · obtain ⟨fd2, F2, _, G2⟩ := ok_law (P := P) (w := w) (base := base) y
    obtain ⟨_, _, _, _, _, _, _, _, _, _, e1, k1, _⟩ := F.ex
    obtain ⟨_, _, _, _, _, _, _, _, _, _, e2, k2, _⟩ := F2.ex
    have k1' : K.lookup (He.ga K "law") = _ := k1
    rw [k2] at k1'
    cases k1'
    exact G2
end K02
open PySem PySem.W PySem.Calls PyProof.Rows
theorem K02.holds (fin : ∀ ns : List Int, ns.length ≤ 63 → (∀ k ∈ ns, Builtin.Int.intBits k ≤ 1048576) → ∃ s, K02.f_law [.scr ns] [] = .ok (.bl true) s) : PySem.Challenge.rw_leadsever_k02_order_and_beginnings.Holds := by
  w_on; o_law
  refine HandSHeadRun.head_any (r := K02.R) (q := view K02.R.prog [17]) (H := K02.hk) (ob := K02.ob) (M := 8000) (loose := K02.loose) (d := HandSHeadRun.topDef K02.R.prog 17) (kwd := []) K02.ob_eq
    (by kernel_rfl) (fun s => by kernel_rfl) K02.run (by kernel_rfl) (by kernel_rfl) (by kernel_rfl) (by rfl) (by first | assumption | decide +kernel) (by decide +kernel) ⟨rfl, rfl, rfl, rfl, rfl, by decide +kernel⟩ ?hw ?hc
  case hw => w_witness2
  case hc =>
    refine G.walk_g (l := PySem.Challenge.rw_leadsever_k02_order_and_beginnings) (n := 63) (k := 4) (x := "_law_script") rfl (by decide) (by kernel_rfl) ⟨⟨rfl, by decide, by decide⟩, rfl⟩ fun w mg fa h Y Z hm => ?_
    obtain ⟨K, KX, c⟩ := Y
    have hm2 : mg ("law" : PySem.Str) = some (.ref fa) := by
      have e : (HandSHeadRun.topDef K02.R.prog 17).name = ("law" : PySem.Str) := by kernel_rfl
      rw [← e]
      exact hm
    exact K02.end_ fin KX Z hm2 c

set_option Elab.async false
set_option linter.all false
set_option maxRecDepth 100000
set_option maxHeartbeats 4000000
/-! plain laws: what the functions of G come to, with no program in sight -/
namespace G
open PySem PySem.Spec PyProof.Rows L2
theorem bind_ok {α β : Type} {a : α} {s : S} {f : α → S → R β} : (R.ok a s).bind f = f a s := rfl
theorem bind_exc {α β : Type} {c : Nat} {d : D} {s : S} {f : α → S → R β} : (R.exc c d s : R α).bind f = R.exc c d s := rfl
theorem bind_bad {α β : Type} {f : α → S → R β} : (R.bad : R α).bind f = R.bad := rfl
theorem runF_eq {n np : Nat} {f : Sx} {ds : List D} {sto : List Co} (h : ds.length = np) : runF n np f ds sto = match f ⟨ds.map Slot.val ++ List.replicate (n - ds.length) Slot.emp, sto⟩ with
    | .ok (.rt d) s => .ok d s
    | .ok .nx s => .ok .non s
    | .exc c d s => .exc c d s
    | _ => .bad := by
  unfold runF
  exact if_pos h
theorem mulI_ok {i j : Int} (h : i.natAbs.log2 + 1 + (j.natAbs.log2 + 1) ≤ 134217728) : mulI i j = some (i * j) := if_pos h
theorem powI_ok {i j : Int} (h : 0 ≤ j ∧ (i.natAbs.log2 + 1) * j.toNat ≤ 134217728) : powI i j = some (i ^ j.toNat) := if_pos h
theorem modI_ok {i j : Int} (h : 0 < j) : modI i j = some (i % j) := if_pos h
theorem fdivI_ok {i j : Int} (h : 0 < j ∧ j < 1073741824) : fdivI i j = some (i / j) := if_pos h
/-- bits -/
def bits (i : Int) : Nat := i.natAbs.log2 + 1
theorem natAbs_lt_bits (i : Int) : i.natAbs < 2 ^ bits i := by
  unfold bits
  exact Nat.lt_log2_self
theorem bits_le {i : Int} {n : Nat} (h : i.natAbs < 2 ^ n) (hn : 0 < n) : bits i ≤ n := by
  unfold bits
  by_cases z : i.natAbs = 0
  · rw [z]
    simp
    omega
  · have := (Nat.log2_lt z).mpr h
    omega
theorem bits_mul {i j : Int} {m n : Nat} (h1 : i.natAbs < 2 ^ m) (h2 : j.natAbs < 2 ^ n) : (i * j).natAbs < 2 ^ (m + n) := by
  rw [Int.natAbs_mul, Nat.pow_add]
  exact Nat.mul_lt_mul'' h1 h2
theorem bits_add {i j : Int} {m : Nat} (h1 : i.natAbs < 2 ^ m) (h2 : j.natAbs < 2 ^ m) : (i + j).natAbs < 2 ^ (m + 1) := by
  have := Int.natAbs_add_le i j
  rw [Nat.pow_succ]
  omega
theorem bits_mono {i : Int} {m n : Nat} (h : m ≤ n) (h1 : i.natAbs < 2 ^ m) : i.natAbs < 2 ^ n := Nat.lt_of_lt_of_le h1 (Nat.pow_le_pow_right (by decide) h)
end G
namespace G
open PySem PySem.Spec PyProof.Rows L2
/-- the cell at n -/
def getCo (l : List Co) (n : Nat) : Option Co := l[n]?
theorem getCo_lt {l : List Co} {n : Nat} {c : Co} (h : getCo l n = some c) : n < l.length := (List.getElem?_eq_some_iff.mp h).1
theorem getCo_set {l : List Co} {n : Nat} {c x : Co} (h : getCo l n = some c) : getCo (l.set n x) n = some x := by
  unfold getCo
  rw [List.getElem?_set_self (getCo_lt h)]
theorem getCo_ne {l : List Co} {n m : Nat} {x : Co} (h : m ≠ n) : getCo (l.set n x) m = getCo l m := by
  unfold getCo
  rw [List.getElem?_set_ne (Ne.symm h)]
theorem getCo_app {l r : List Co} {n : Nat} {c : Co} (h : getCo l n = some c) : getCo (l ++ r) n = some c := by
  unfold getCo
  rw [List.getElem?_append_left (getCo_lt h)]
  exact h
theorem getCo_last {l : List Co} {c : Co} : getCo (l ++ [c]) l.length = some c := by
  unfold getCo
  rw [List.getElem?_append_right (Nat.le_refl _), Nat.sub_self]
  rfl
section
variable {f g h : Ex} {fs : Ax} {c c2 : Tx} {p q : Sx} {s : S} {i n : Nat} {d e : D}
@[simp] theorem q_bind_ok {α β : Type} {a : α} {s : S} {f : α → S → R β} : (R.ok a s).bind f = f a s := by rfl
@[simp] theorem q_bind_exc {α β : Type} {c : Nat} {d : D} {s : S} {f : α → S → R β} : (R.exc c d s : R α).bind f = R.exc c d s := by rfl
@[simp] theorem q_bind_bad {α β : Type} {f : α → S → R β} : (R.bad : R α).bind f = R.bad := by rfl
@[simp] theorem q_seq : seqS p q s = (p s).bind fun fl s => match fl with
  | .nx => q s
  | fl => .ok fl s := by rfl
@[simp] theorem q_next : nextS s = .ok .nx s := by rfl
@[simp] theorem q_break : breakS s = .ok .bk s := by rfl
@[simp] theorem q_cont : contS s = .ok .ct s := by rfl
@[simp] theorem q_expr : exprS f s = (f s).bind fun _ s => .ok .nx s := by rfl
@[simp] theorem q_ret : retS f s = (f s).bind fun d s => .ok (.rt d) s := by rfl
@[simp] theorem q_retN : retNS s = .ok (.rt .non) s := by rfl
@[simp] theorem q_ifS : ifS c p q s = (c s).bind fun b s => if b then p s else q s := by rfl
@[simp] theorem q_bad : badS s = .bad := by rfl
@[simp] theorem q_putV {x : Slot} : putV i x s = { s with env := s.env.set i x } := by rfl
@[simp] theorem q_set : setS i f s = (f s).bind fun d s => if i < s.env.length then .ok .nx (putV i (.val d) s) else .bad := by rfl
@[simp] theorem q_own {f : Fx} : ownS i f s = (f s).bind fun c s => if i < s.env.length then .ok .nx (putV i (.own c) s) else .bad := by rfl
@[simp] theorem q_frz {f : Fx} : frzE f s = (f s).bind fun c s => match coD c with
  | some d => .ok d s
  | none => .bad := by rfl
@[simp] theorem q_cel {f : Fx} : celE f s = (f s).bind fun c s => .ok (.cel s.sto.length) { s with sto := s.sto ++ [c] } := by rfl
@[simp] theorem q_coL {xs : List D} : coD (.L xs) = some (.lst xs) := by rfl
@[simp] theorem q_coM {xs : List (D × D)} : coD (.M xs) = some (.dct xs) := by rfl
@[simp] theorem q_lstF : lstF fs s = (fs s).bind fun ds s => if ds.length ≤ line then .ok (.L ds) s else .bad := by rfl
@[simp] theorem q_tup : tupE fs s = (fs s).bind fun ds s => if ds.length ≤ line then .ok (.tup ds) s else .bad := by rfl
@[simp] theorem q_nil : nilA s = .ok [] s := by rfl
@[simp] theorem q_cons : consA f fs s = (f s).bind fun d s => (fs s).bind fun ds s => .ok (d :: ds) s := by rfl
@[simp] theorem q_const : constE d s = .ok d s := by rfl
@[simp] theorem q_nameO : nameO i s = match s.env[i]? with
  | some (.val d) => .ok d s
  | some (.own _) => .ok (.own i) s
  | _ => .bad := by rfl
@[simp] theorem q_nameV : nameV i s = (nameO i s).bind settle := by rfl
@[simp] theorem q_then : thenS f s = (f s).bind settle := by rfl
@[simp] theorem q_set_non : settle .non s = .ok .non s := by rfl
@[simp] theorem q_set_bl {b : Bool} : settle (.bl b) s = .ok (.bl b) s := by rfl
@[simp] theorem q_set_int {b : Int} : settle (.int b) s = .ok (.int b) s := by rfl
@[simp] theorem q_set_str {b : List Nat} : settle (.str b) s = .ok (.str b) s := by rfl
@[simp] theorem q_set_lst {b : List D} : settle (.lst b) s = .ok (.lst b) s := by rfl
@[simp] theorem q_set_tup {b : List D} : settle (.tup b) s = .ok (.tup b) s := by rfl
@[simp] theorem q_set_dct {b : List (D × D)} : settle (.dct b) s = .ok (.dct b) s := by rfl
@[simp] theorem q_set_cel {b : Nat} : settle (.cel b) s = .ok (.cel b) s := by rfl
@[simp] theorem q_set_scr {b : List Int} : settle (.scr b) s = .ok (.scr b) s := by rfl
@[simp] theorem q_bin2 {op : D → D → Ex} : bin2 op f g s = (f s).bind fun d s => (g s).bind fun e s => op d e s := by rfl
@[simp] theorem q_biE {op : Op} : biE op fs s = (fs s).bind fun ds s => op ds s := by rfl
@[simp] theorem q_truT : truT f s = (f s).bind fun d s => match truthD s d with
  | some b => .ok b s
  | none => .bad := by rfl
@[simp] theorem q_tr_bl {b : Bool} : truthD s (.bl b) = some b := by rfl
@[simp] theorem q_notT : notT c s = (c s).bind fun b s => .ok (!b) s := by rfl
@[simp] theorem q_andT : andT c c2 s = (c s).bind fun b s => if b then c2 s else .ok false s := by rfl
@[simp] theorem q_orT : orT c c2 s = (c s).bind fun b s => if b then .ok true s else c2 s := by rfl
@[simp] theorem q_andV : andV f g s = (f s).bind fun d s => match d with
  | .bl b => if b then g s else .ok (.bl false) s
  | _ => .bad := by rfl
@[simp] theorem q_orV : orV f g s = (f s).bind fun d s => match d with
  | .bl b => if b then .ok (.bl true) s else g s
  | _ => .bad := by rfl
@[simp] theorem q_notV : notV f s = (f s).bind fun d s => match d with
  | .bl b => .ok (.bl (!b)) s
  | _ => .bad := by rfl
@[simp] theorem q_ifV : ifV c f g s = (c s).bind fun b s => if b then f s else g s := by rfl
@[simp] theorem q_numI {k : Int → Int → Option Int} {i j : Int} : numI k (.int i) (.int j) s = match k i j with
    | some k => .ok (.int k) s
    | none => .bad := by rfl
@[simp] theorem q_subI {i j : Int} : subI i j = some (i - j) := by rfl
@[simp] theorem q_addI {i j : Int} : addD (.int i) (.int j) s = .ok (.int (i + j)) s := by rfl
@[simp] theorem q_addS {i j : List Nat} : addD (.str i) (.str j) s = if i.length + j.length ≤ line then .ok (.str (i ++ j)) s else .bad := by rfl
@[simp] theorem q_addT {i j : List D} : addD (.tup i) (.tup j) s = if i.length + j.length ≤ line then .ok (.tup (i ++ j)) s else .bad := by rfl
@[simp] theorem q_eqI {i j : Int} : eqD (.int i) (.int j) s = .ok (.bl (decide (i = j))) s := by rfl
@[simp] theorem q_eqS {i j : List Nat} : eqD (.str i) (.str j) s = .ok (.bl (decide (i = j))) s := by rfl
@[simp] theorem q_neI {i j : Int} : neD (.int i) (.int j) s = .ok (.bl (!decide (i = j))) s := by rfl
@[simp] theorem q_neS {i j : List Nat} : neD (.str i) (.str j) s = .ok (.bl (!decide (i = j))) s := by rfl
@[simp] theorem q_ltI {i j : Int} : ltD (.int i) (.int j) s = .ok (.bl (decide (i < j))) s := by rfl
@[simp] theorem q_leI {i j : Int} : leD (.int i) (.int j) s = .ok (.bl (decide (i ≤ j))) s := by rfl
@[simp] theorem q_gtI {i j : Int} : gtD (.int i) (.int j) s = .ok (.bl (decide (j < i))) s := by rfl
@[simp] theorem q_geI {i j : Int} : geD (.int i) (.int j) s = .ok (.bl (decide (j ≤ i))) s := by rfl
@[simp] theorem q_intO {i : Int} : intO [.int i] s = .ok (.int i) s := by rfl
@[simp] theorem q_intB {b : Bool} : intO [.bl b] s = .ok (.int (if b then 1 else 0)) s := by rfl
@[simp] theorem q_callE {F : Fn} {dds : List D} : callE F dds fs s = (fs s).bind fun ds s => callF F (ds ++ dds) s := by rfl
@[simp] theorem q_subS {h : Ex} : subS f g h s = (f s).bind fun y s => (g s).bind fun d s => (h s).bind fun k s => storeD d k y s := by rfl
@[simp] theorem q_forS {src : Ix} {tg : Gx} {b : Sx} : forS src tg b s = (src s).bind fun nx s => forLoop nx tg b fuel 0 s := by rfl
@[simp] theorem q_seqI : seqI f s = (f s).bind fun d s => match d with
  | .cel n => (match getCo s.sto n with
    | some (.L _) => .ok (celN n) s
    | _ => .bad)
  | .lst xs => .ok (fixN xs) s
  | .scr xs => .ok (fixN (xs.map D.int)) s
  | _ => .bad := by rfl
@[simp] theorem q_nameG : nameG i d s = if i < s.env.length then .ok () (putV i (.val d) s) else .bad := by rfl
@[simp] theorem q_disp {f : Qx} : dispF f s = (f s).bind fun kds s => match mergeD [] kds with
  | some kvs => .ok (.M kvs) s
  | none => .bad := by rfl
@[simp] theorem q_nilQ : nilQ s = .ok [] s := by rfl
@[simp] theorem q_consQ {r : Qx} : consQ f g r s = (f s).bind fun k s => (g s).bind fun d s => (r s).bind fun r s => .ok ((k, d) :: r) s := by rfl
@[simp] theorem q_unK_L {xs : List D} : unK (some (.L xs)) = some (.L xs) := by rfl
@[simp] theorem q_unK_M {xs : List (D × D)} : unK (some (.M xs)) = some (.M xs) := by rfl
@[simp] theorem q_unK_I {c : Nat} {xs : List (Nat × D)} : unK (some (.I c xs)) = some (.I c xs) := by rfl
@[simp] theorem q_ix_cel {k : D} : ixD (.cel n) k s = match unK (getCo s.sto n) with
  | some (.M kvs) => ixDct kvs k s
  | some (.L xs) => ixAt (some xs) k s
  | _ => ixAt none k s := by
  have e : ixD (.cel n) k s = match unK (getCo s.sto n) with | some (.M kvs) => ixDct kvs k s | _ => ixAt (coList (unK (getCo s.sto n))) k s := rfl
  rw [e]
  cases unK (getCo s.sto n) with
  | none => rfl
  | some c => cases c <;> rfl
@[simp] theorem q_store_cel {k y : D} : storeD (.cel n) k y s = match unK (getCo s.sto n) with
  | some (.M kvs) => if dctOk kvs k && Nat.ble (putD k y kvs).length line then putR (.M (putD k y kvs)) (.cel n) s else .bad
  | some (.L xs) => (match k with
    | .int i => (match ixN xs.length i with
      | some j => putR (.L (xs.set j y)) (.cel n) s
      | none => .bad)
    | _ => .bad)
  | _ => .bad := by rfl
@[simp] theorem q_putR {co : Co} : putR co (.cel n) s = match getCo s.sto n with
  | some (.K _) => .bad
  | some _ => .ok .nx { s with sto := s.sto.set n co }
  | none => .bad := by
  have e : putR co (.cel n) s = match (match getCo s.sto n with | some (.K _) => none | some _ => some { s with sto := s.sto.set n co } | none => none) with | some s' => .ok .nx s' | none => .bad := rfl
  rw [e]
  cases getCo s.sto n with
  | none => rfl
  | some c => cases c <;> rfl
end
/-- a for over what stands still -/
theorem for_inv {xs : List D} {tg : Gx} {body : Sx} {s : S} {P : Nat → S → Prop} {E : D → S → Prop} (hl : xs.length < fuel) (h0 : P 0 s)
    (hs : ∀ i d s, xs[i]? = some d → P i s → ∃ s1, tg d s = .ok () s1 ∧ ((∃ s2, body s1 = .ok .nx s2 ∧ P (i + 1) s2) ∨ (∃ s2, body s1 = .ok .ct s2 ∧ P (i + 1) s2) ∨ ∃ r s2, body s1 = .ok (.rt r) s2 ∧ E r s2)) :
    (∃ s', forLoop (fixN xs) tg body fuel 0 s = .ok .nx s' ∧ P xs.length s') ∨ ∃ r s', forLoop (fixN xs) tg body fuel 0 s = .ok (.rt r) s' ∧ E r s' := by
  have go : ∀ (k i : Nat) (s : S), i + k = fuel → i ≤ xs.length → P i s → (∃ s', forLoop (fixN xs) tg body k i s = .ok .nx s' ∧ P xs.length s') ∨ ∃ r s', forLoop (fixN xs) tg body k i s = .ok (.rt r) s' ∧ E r s' := by
    intro k
    induction k with
    | zero => intro i s e hi _; omega
    | succ k ih =>
      intro i s e hi hp
      unfold forLoop
      by_cases h : i = xs.length
      · subst h
        have : fixN xs xs.length s = some none := by simp [fixN]
        rw [this]
        exact .inl ⟨s, rfl, hp⟩
      · have hi' : i < xs.length := by omega
        have : fixN xs i s = some (some xs[i]) := by simp [fixN, hi']
        rw [this]
        obtain ⟨s1, e1, q⟩ := hs i xs[i] s (List.getElem?_eq_getElem hi') hp
        simp only [e1]
        rcases q with ⟨s2, e2, p2⟩ | ⟨s2, e2, p2⟩ | ⟨r, s2, e2, p2⟩
        · simp only [e2]
          exact ih (i + 1) s2 (by omega) hi' p2
        · simp only [e2]
          exact ih (i + 1) s2 (by omega) hi' p2
        · simp only [e2]
          exact .inr ⟨r, s2, rfl, p2⟩
  exact go fuel 0 s (by omega) (Nat.zero_le _) h0
end G
namespace G
open PySem PySem.Spec PyProof.Rows L2
/-- it returns True -/
def yes : R Fl → Bool
  | .ok (.rt (.bl true)) _ => true
  | _ => false
theorem runF_yes {n np : Nat} {f : Sx} {ds : List D} {sto : List Co} (h : ds.length = np) (hy : yes (f ⟨ds.map Slot.val ++ List.replicate (n - ds.length) Slot.emp, sto⟩) = true) : ∃ s, runF n np f ds sto = .ok (.bl true) s := by
  rw [runF_eq h]
  generalize f _ = r at hy
  unfold yes at hy
  split at hy
  · exact ⟨_, rfl⟩
  · cases hy
theorem seq_nx {f g : Sx} {s s1 : S} (h : f s = .ok .nx s1) : seqS f g s = g s1 := by
  unfold seqS
  rw [h]
  rfl
section
variable {f g h : Ex} {fs ks : Ax} {s : S} {i n m : Nat} {d e : D}
@[simp] theorem q_slc {a b : Px} : slcE f a b s = (f s).bind fun d s => (a s).bind fun lo s => (b s).bind fun hi s => sliceD d lo hi s := by rfl
@[simp] theorem q_noP : noP s = .ok none s := by rfl
@[simp] theorem q_someP : someP f s = (f s).bind fun d s => match d with
  | .int i => .ok (some i) s
  | _ => .bad := by rfl
@[simp] theorem q_sl_tup {xs : List D} {lo hi : Option Int} : sliceD (.tup xs) lo hi s = .ok (.tup (cutN xs lo hi)) s := by rfl
@[simp] theorem q_make {c : Nat} {F : Fn} {dds : List D} : makeE c F dds fs s = (fs s).bind fun ds s => newF c F (ds ++ dds) s := by rfl
end
end G

set_option Elab.async false
set_option linter.all false
set_option maxRecDepth 100000
set_option maxHeartbeats 4000000
/-! plain laws: what comes out, told by what is wanted of it; loops, comprehensions, calls -/
namespace G
open PySem PySem.Spec PyProof.Rows L2
/-- a type that names what it stands behind: simp leaves that alone -/
@[reducible] def Ph {β : Type} (_ : β) (γ : Type) : Type := γ
/-- bind, of which simp looks at what comes first alone -/
def bnd {α β : Type} (f : α → S → R β) (r : Ph f (R α)) : R β := R.bind r f
def wp0 {α : Type} (Q : α → S → Prop) : R α → Prop
  | .ok a s => Q a s
  | _ => False
/-- it comes to an end, and Q holds of it -/
@[irreducible] def wp {α : Type} (Q : α → S → Prop) (r : Ph Q (R α)) : Prop := wp0 Q r
theorem wp_def {α : Type} {Q : α → S → Prop} {r : R α} : wp Q r = wp0 Q r := by unfold wp; rfl
section
variable {α β : Type} {Q Q' : α → S → Prop} {a : α} {s : S} {r : R α}
@[simp] theorem wp_ok : wp Q (.ok a s) = Q a s := by rw [wp_def]; rfl
@[simp] theorem wp_bad : wp Q .bad = False := by rw [wp_def]; rfl
@[simp] theorem wp_exc {c : Nat} {d : D} : wp Q (.exc c d s) = False := by rw [wp_def]; rfl
theorem wp_bind {f : α → S → R β} {Q : β → S → Prop} : wp Q (r.bind f) = wp (fun a s => wp Q (f a s)) r := by
  rw [wp_def, wp_def]
  cases r with
  | ok a s => show wp0 Q (f a s) = wp Q (f a s); rw [wp_def]
  | exc c d s => rfl
  | bad => rfl
theorem wp_ret (h : Q a s) : wp Q (.ok a s) := by rw [wp_ok]; exact h
theorem wp_mono (h : wp Q r) (hq : ∀ a s, Q a s → Q' a s) : wp Q' r := by
  rw [wp_def] at h ⊢
  cases r with
  | ok a s => exact hq a s h
  | exc c d s => exact h
  | bad => exact h
theorem wp_iff : wp Q r ↔ ∃ a s, r = .ok a s ∧ Q a s := by
  rw [wp_def]
  cases r with
  | ok a s => exact ⟨fun h => ⟨a, s, rfl, h⟩, fun ⟨_, _, e, h⟩ => by cases e; exact h⟩
  | exc c d s => exact ⟨fun h => h.elim, fun ⟨_, _, e, _⟩ => by cases e⟩
  | bad => exact ⟨fun h => h.elim, fun ⟨_, _, e, _⟩ => by cases e⟩
theorem wp_of_eq (e : r = .ok a s) (h : Q a s) : wp Q r := by rw [e]; exact wp_ret h
end
@[simp ↓] theorem bind_bnd {α β : Type} {f : α → S → R β} {r : R α} : r.bind f = bnd f r := by rfl
@[simp] theorem bnd_ok {α β : Type} {f : α → S → R β} {a : α} {s : S} : bnd f (.ok a s) = f a s := by rfl
@[simp] theorem bnd_exc {α β : Type} {f : α → S → R β} {c : Nat} {d : D} {s : S} : bnd f (.exc c d s) = .exc c d s := by rfl
@[simp] theorem bnd_bad {α β : Type} {f : α → S → R β} : bnd f .bad = .bad := by rfl
@[simp] theorem wp_bnd {α β : Type} {f : α → S → R β} {r : R α} {Q : β → S → Prop} : wp Q (bnd f r) = wp (fun a s => wp Q (f a s)) r := wp_bind
/-- a call -/
theorem wp_callF {F : Fn} {ds : List D} {s : S} {Q : D → S → Prop} (h : wp (fun d s' => Q d { s with sto := s'.sto }) (F ds s.sto)) : wp Q (callF F ds s) := by
  unfold callF
  rw [wp_def] at h ⊢
  cases e : F ds s.sto with
  | ok d s' => rw [e] at h; exact h
  | exc c d s' => rw [e] at h; exact h.elim
  | bad => rw [e] at h; exact h.elim
/-- what is wanted at the end: simp leaves it alone -/
@[reducible] def hold {α : Type} (Q : α → S → Prop) (d : Ph Q α) (s : S) : Prop := Q d s
theorem wp_runF {n np : Nat} {f : Sx} {ds : List D} {sto : List Co} {Q : D → S → Prop} (hl : ds.length = np)
    (h : wp (fun fl s => match fl with | .rt d => hold Q d s | .nx => hold Q .non s | _ => False) (f ⟨ds.map Slot.val ++ List.replicate (n - ds.length) Slot.emp, sto⟩)) : wp Q (runF n np f ds sto) := by
  rw [runF_eq hl]
  rw [wp_def] at h ⊢
  cases e : f ⟨ds.map Slot.val ++ List.replicate (n - ds.length) Slot.emp, sto⟩ with
  | ok fl s' => 
    rw [e] at h
    cases fl with
    | rt d => exact h
    | nx => exact h
    | bk => exact h.elim
    | ct => exact h.elim
  | exc c d s' => rw [e] at h; exact h.elim
  | bad => rw [e] at h; exact h.elim
/-- a def that leaves the store -/
theorem callF_pure {n np : Nat} {f : Sx} {ds : List D} {v : D} {s : S} (hl : ds.length = np)
    (h : wp (fun fl s' => (match fl with | .rt d => d = v | .nx => v = .non | _ => False) ∧ s'.sto = s.sto) (f ⟨ds.map Slot.val ++ List.replicate (n - ds.length) Slot.emp, s.sto⟩)) : callF (runF n np f) ds s = .ok v s := by
  have k : wp (fun d s' => d = v ∧ s' = s) (callF (runF n np f) ds s) := by
    refine wp_callF (wp_runF hl (wp_mono h ?_))
    rintro fl s' ⟨h1, h2⟩
    cases fl with
    | rt d => exact ⟨h1, by rw [h2]⟩
    | nx => exact ⟨h1.symm, by rw [h2]⟩
    | bk => exact h1
    | ct => exact h1
  obtain ⟨a, s', e, rfl, rfl⟩ := wp_iff.mp k
  exact e
/-- an invariant at the end of a turn: simp leaves it alone -/
@[reducible] def holdP (P : S → Prop) (s : Ph P S) : Prop := P s
/-- a for: n turns -/
theorem wp_forLoop {nx : Nx} {tg : Gx} {body : Sx} {Q : Fl → S → Prop} {s : S} (n : Nat) (P : Nat → S → Prop) (hn : n < fuel) (h0 : P 0 s)
    (hgo : ∀ i s, i < n → P i s → ∃ d, nx i s = some (some d) ∧ wp (fun _ s1 => wp (fun fl s2 => match fl with | .nx => holdP (P (i + 1)) s2 | .ct => holdP (P (i + 1)) s2 | .bk => Q .nx s2 | .rt r => Q (.rt r) s2) (body s1)) (tg d s))
    (hend : ∀ s, P n s → nx n s = some none ∧ Q .nx s) : wp Q (forLoop nx tg body fuel 0 s) := by
  have go : ∀ (k i : Nat) (s : S), i + k = fuel → i ≤ n → P i s → wp Q (forLoop nx tg body k i s) := by
    intro k
    induction k with
    | zero => intro i s e hi _; omega
    | succ k ih =>
      intro i s e hi hp
      unfold forLoop
      by_cases h : i = n
      · subst h
        obtain ⟨h1, h2⟩ := hend s hp
        rw [h1]
        exact wp_ret h2
      · obtain ⟨d, h1, h2⟩ := hgo i s (by omega) hp
        rw [h1]
        obtain ⟨_, s1, e1, h3⟩ := wp_iff.mp h2
        simp only [e1]
        obtain ⟨fl, s2, e2, h4⟩ := wp_iff.mp h3
        simp only [e2]
        cases fl with
        | nx => exact ih (i + 1) s2 (by omega) (by omega) h4
        | ct => exact ih (i + 1) s2 (by omega) (by omega) h4
        | bk => exact wp_ret h4
        | rt r => exact wp_ret h4
  exact go fuel 0 s (by omega) (Nat.zero_le _) h0
theorem wp_for_fix {xs : List D} {tg : Gx} {body : Sx} {Q : Fl → S → Prop} {s : S} (P : Nat → S → Prop) (hn : xs.length < fuel) (h0 : P 0 s)
    (hgo : ∀ i s (h : i < xs.length), P i s → wp (fun _ s1 => wp (fun fl s2 => match fl with | .nx => holdP (P (i + 1)) s2 | .ct => holdP (P (i + 1)) s2 | .bk => Q .nx s2 | .rt r => Q (.rt r) s2) (body s1)) (tg xs[i] s))
    (hend : ∀ s, P xs.length s → Q .nx s) : wp Q (forLoop (fixN xs) tg body fuel 0 s) :=
  wp_forLoop xs.length P hn h0 (fun i s hi hp => ⟨xs[i], by simp [fixN, hi], hgo i s hi hp⟩) fun s hp => ⟨by simp [fixN], hend s hp⟩
theorem wp_for_rng {lo : Int} {n : Nat} {tg : Gx} {body : Sx} {Q : Fl → S → Prop} {s : S} (P : Nat → S → Prop) (hn : n < fuel) (h0 : P 0 s)
    (hgo : ∀ i s, i < n → P i s → wp (fun _ s1 => wp (fun fl s2 => match fl with | .nx => holdP (P (i + 1)) s2 | .ct => holdP (P (i + 1)) s2 | .bk => Q .nx s2 | .rt r => Q (.rt r) s2) (body s1)) (tg (.int (lo + i)) s))
    (hend : ∀ s, P n s → Q .nx s) : wp Q (forLoop (rngN lo n) tg body fuel 0 s) :=
  wp_forLoop n P hn h0 (fun i s hi hp => ⟨.int (lo + i), by simp [rngN, hi], hgo i s hi hp⟩) fun s hp => ⟨by simp [rngN], hend s hp⟩
/-- a comprehension: n turns -/
theorem wp_lcLoop {nx : Nx} {vs : List Nat} {tg : Gx} {test : Tx} {elt : Ex} {s : S} (n : Nat) (P : Nat → List D → S → Prop) (hn : n < fuel) (h0 : P 0 [] s)
    (hgo : ∀ i acc s, i < n → P i acc s → ∃ d, nx i s = some (some d) ∧ vs.all (notOwn s) = true ∧ wp (fun _ s1 => wp (fun b s2 => if b then wp (fun y s3 => holdP (P (i + 1) (y :: acc)) (restS vs s s3)) (elt s2) else holdP (P (i + 1) acc) (restS vs s s2)) (test s1)) (tg d (wipeS vs s)))
    (hend : ∀ acc s, P n acc s → nx n s = some none) : wp (P n) (lcLoop nx vs tg test elt fuel 0 [] s) := by
  have go : ∀ (k i : Nat) (acc : List D) (s : S), i + k = fuel → i ≤ n → P i acc s → wp (P n) (lcLoop nx vs tg test elt k i acc s) := by
    intro k
    induction k with
    | zero => intro i acc s e hi _; omega
    | succ k ih =>
      intro i acc s e hi hp
      unfold lcLoop
      by_cases h : i = n
      · subst h
        rw [hend acc s hp]
        exact wp_ret hp
      · obtain ⟨d, h1, hv, h2⟩ := hgo i acc s (by omega) hp
        rw [h1]
        simp only [hv, if_true]
        obtain ⟨_, s1, e1, h3⟩ := wp_iff.mp h2
        simp only [e1]
        obtain ⟨b, s2, e2, h4⟩ := wp_iff.mp h3
        simp only [e2]
        cases b with
        | true =>
          obtain ⟨y, s3, e3, h5⟩ := wp_iff.mp h4
          simp only [e3]
          exact ih (i + 1) _ _ (by omega) (by omega) h5
        | false => exact ih (i + 1) _ _ (by omega) (by omega) h4
  exact go fuel 0 [] s (by omega) (Nat.zero_le _) h0
/-- a comprehension behind its source -/
def lcR (nx : Nx) (vs : List Nat) (tg : Gx) (test : Tx) (elt : Ex) (s : S) : R Co := match lcLoop nx vs tg test elt fuel 0 [] s with
  | .ok acc s => .ok (.L acc.reverse) s
  | _ => .bad
@[simp] theorem q_lcF {src : Ix} {vs : List Nat} {tg : Gx} {test : Tx} {elt : Ex} {s : S} : lcF src vs tg test elt s = (src s).bind fun nx s => lcR nx vs tg test elt s := by rfl
theorem wp_lcR {nx : Nx} {vs : List Nat} {tg : Gx} {test : Tx} {elt : Ex} {s : S} {Q : Co → S → Prop} (n : Nat) (P : Nat → List D → S → Prop) (hn : n < fuel) (h0 : P 0 [] s)
    (hgo : ∀ i acc s, i < n → P i acc s → ∃ d, nx i s = some (some d) ∧ vs.all (notOwn s) = true ∧ wp (fun _ s1 => wp (fun b s2 => if b then wp (fun y s3 => holdP (P (i + 1) (y :: acc)) (restS vs s s3)) (elt s2) else holdP (P (i + 1) acc) (restS vs s s2)) (test s1)) (tg d (wipeS vs s)))
    (hend : ∀ acc s, P n acc s → nx n s = some none ∧ Q (.L acc.reverse) s) : wp Q (lcR nx vs tg test elt s) := by
  unfold lcR
  obtain ⟨acc, s', e, h⟩ := wp_iff.mp (wp_lcLoop n P hn h0 hgo fun acc s hp => (hend acc s hp).1)
  rw [e]
  exact wp_ret (hend acc s' h).2
/-- .. whose parts change nothing; the items are told as k y -/
theorem lcR_map {α : Type} {ys : List α} {k : α → D} {vs : List Nat} {tg : Gx} {test : Tx} {elt : Ex} {s : S} (b : α → S) (t : α → Bool) (e : α → D) (hn : ys.length < fuel) (hv : vs.all (notOwn s) = true)
    (h : ∀ y ∈ ys, tg (k y) (wipeS vs s) = .ok () (b y) ∧ test (b y) = .ok (t y) (b y) ∧ (t y = true → elt (b y) = .ok (e y) (b y)) ∧ restS vs s (b y) = s) : lcR (fixN (ys.map k)) vs tg test elt s = .ok (.L ((ys.filter t).map e)) s := by
  have k := wp_lcR (nx := fixN (ys.map k)) (vs := vs) (tg := tg) (test := test) (elt := elt) (Q := fun c s' => c = .L ((ys.filter t).map e) ∧ s' = s) ys.length (fun i acc s' => s' = s ∧ acc = (((ys.take i).filter t).map e).reverse) hn ⟨rfl, by simp⟩ ?_ ?_
  · obtain ⟨c, s', e, rfl, rfl⟩ := wp_iff.mp k
    exact e
  · rintro i acc s' hi ⟨rfl, rfl⟩
    obtain ⟨h1, h2, h3, h4⟩ := h ys[i] (List.getElem_mem hi)
    refine ⟨k ys[i], by simp [fixN, hi], hv, wp_of_eq h1 (wp_of_eq h2 ?_)⟩
    have tk : ys.take (i + 1) = ys.take i ++ [ys[i]] := by rw [List.take_succ_eq_append_getElem hi]
    cases ht : t ys[i] with
    | true =>
      rw [if_pos rfl]
      refine wp_of_eq (h3 ht) ⟨h4, ?_⟩
      rw [tk]
      rw [List.filter_append, List.map_append, List.reverse_append]
      simp [List.filter_cons, ht]
    | false =>
      rw [if_neg Bool.false_ne_true]
      refine ⟨h4, ?_⟩
      rw [tk]
      rw [List.filter_append, List.map_append, List.reverse_append]
      simp [List.filter_cons, ht]
  · rintro acc s' ⟨rfl, rfl⟩
    exact ⟨by simp [fixN], by simp, rfl⟩
theorem lcR_map1 {α : Type} {ys : List α} {k : α → D} {v : Nat} {test : Tx} {elt : Ex} {s : S} (t : α → Bool) (e : α → D) (hn : ys.length < fuel) (hv : notOwn s v = true)
    (ht : ∀ y ∈ ys, test { s with env := s.env.set v (.val (k y)) } = .ok (t y) { s with env := s.env.set v (.val (k y)) })
    (he : ∀ y ∈ ys, t y = true → elt { s with env := s.env.set v (.val (k y)) } = .ok (e y) { s with env := s.env.set v (.val (k y)) }) : lcR (fixN (ys.map k)) [v] (nameG v) test elt s = .ok (.L ((ys.filter t).map e)) s := by
  have hv0 := hv
  unfold notOwn at hv
  cases q : s.env[v]? with
  | none => rw [q] at hv; cases hv
  | some sl =>
    have hlt : v < s.env.length := (List.getElem?_eq_some_iff.mp q).1
    refine lcR_map (fun y => { s with env := s.env.set v (.val (k y)) }) t e hn (by simp [hv0]) fun y hy => ⟨?_, ht y hy, he y hy, ?_⟩
    · simp [nameG, wipeS, wipeE, hlt, putV]
    · unfold restS restE
      simp only [q]
      show S.mk ((s.env.set v (.val (k y))).set v sl) s.sto = s
      rw [List.set_set, ← (List.getElem?_eq_some_iff.mp q).2, List.set_getElem_self]
theorem lcR_id1 {ys : List D} {v : Nat} {test : Tx} {elt : Ex} {s : S} (t : D → Bool) (e : D → D) (hn : ys.length < fuel) (hv : notOwn s v = true)
    (ht : ∀ y ∈ ys, test { s with env := s.env.set v (.val y) } = .ok (t y) { s with env := s.env.set v (.val y) })
    (he : ∀ y ∈ ys, t y = true → elt { s with env := s.env.set v (.val y) } = .ok (e y) { s with env := s.env.set v (.val y) }) : lcR (fixN ys) [v] (nameG v) test elt s = .ok (.L ((ys.filter t).map e)) s := by
  have h := lcR_map1 (k := id) t e hn hv ht he
  rw [List.map_id] at h
  exact h
end G
namespace G
/-- what follows a statement -/
def cont (Q : Fl → S → Prop) (g : Sx) (fl : Ph (Q, g) Fl) (s : S) : Prop := match fl with
  | .nx => wp Q (g s)
  | fl => Q fl s
theorem wp_seq {Q : Fl → S → Prop} {f g : Sx} {s : S} (h : wp (cont Q g) (f s)) : wp Q (seqS f g s) := by
  rw [show seqS f g s = (f s).bind fun fl s => match fl with | .nx => g s | fl => .ok fl s from rfl, wp_bind]
  refine wp_mono h fun fl s h => ?_
  cases fl <;> first | exact h | exact wp_ret h
theorem cont_nx {Q : Fl → S → Prop} {g : Sx} {s : S} (h : wp Q (g s)) : cont Q g .nx s := h
theorem cont_rt {Q : Fl → S → Prop} {g : Sx} {s : S} {d : D} (h : Q (.rt d) s) : cont Q g (.rt d) s := h
end G

set_option Elab.async false
set_option linter.all false
set_option maxRecDepth 100000
set_option maxHeartbeats 4000000
/-! plain laws: more of what the forms come to -/
namespace G
open PySem PySem.Spec PyProof.Rows L2
section
variable {f g h : Ex} {fs ks : Ax} {s : S} {i n m : Nat} {d e : D}
@[simp] theorem q_isi {ans : Ty → Option Bool} : isiE ans f s = (f s).bind fun d s => match (tyOf s d).bind ans with
  | some b => .ok (.bl b) s
  | none => .bad := by rfl
@[simp] theorem q_ty_non : tyOf s .non = some .non := by rfl
@[simp] theorem q_ty_bl {b : Bool} : tyOf s (.bl b) = some .bl := by rfl
@[simp] theorem q_ty_int {b : Int} : tyOf s (.int b) = some .int := by rfl
@[simp] theorem q_ty_str {x : List Nat} : tyOf s (.str x) = some .str := by rfl
@[simp] theorem q_ty_lst {x : List D} : tyOf s (.lst x) = some .lst := by rfl
@[simp] theorem q_ty_tup {x : List D} : tyOf s (.tup x) = some .tup := by rfl
@[simp] theorem q_ty_dct {x : List (D × D)} : tyOf s (.dct x) = some .dct := by rfl
@[simp] theorem q_chain {op op' : D → D → Ex} : chainE op op' f g h s = (f s).bind fun x s => (g s).bind fun y s => (op x y s).bind fun k s => match k with
  | .bl b => if b then (h s).bind fun z s => op' y z s else .ok (.bl false) s
  | _ => .bad := by
  unfold chainE
  congr 1; funext x s; congr 1; funext y s; congr 1; funext k s
  cases k with
  | bl b => cases b <;> rfl
  | _ => rfl
@[simp] theorem q_ct_lst {xs : List D} : content s (.lst xs) = some (.L xs) := by rfl
@[simp] theorem q_ct_dct {xs : List (D × D)} : content s (.dct xs) = some (.M xs) := by rfl
@[simp] theorem q_ct_tup {xs : List D} : content s (.tup xs) = none := by rfl
@[simp] theorem q_ct_str {xs : List Nat} : content s (.str xs) = none := by rfl
@[simp] theorem q_ct_int {x : Int} : content s (.int x) = none := by rfl
@[simp] theorem q_ct_bl {x : Bool} : content s (.bl x) = none := by rfl
@[simp] theorem q_ct_non : content s .non = none := by rfl
@[simp] theorem q_ct_scr {x : List Int} : content s (.scr x) = none := by rfl
@[simp] theorem q_ct_cel : content s (.cel n) = unK (getCo s.sto n) := by rfl
@[simp] theorem q_coList {xs : List D} : coList (some (.L xs)) = some xs := by rfl
@[simp] theorem q_coListM {xs : List (D × D)} : coList (some (.M xs)) = none := by rfl
@[simp] theorem q_coListI {c : Nat} {xs : List (Nat × D)} : coList (some (.I c xs)) = none := by rfl
@[simp] theorem q_coListN : coList none = none := by rfl
@[simp] theorem q_so_tup {xs : List D} : seqOf s (.tup xs) = some xs := by rfl
@[simp] theorem q_so_lst {xs : List D} : seqOf s (.lst xs) = some xs := by rfl
@[simp] theorem q_so_scr {xs : List Int} : seqOf s (.scr xs) = some (xs.map D.int) := by rfl
@[simp] theorem q_so_dct {xs : List (D × D)} : seqOf s (.dct xs) = none := by rfl
@[simp] theorem q_so_str {xs : List Nat} : seqOf s (.str xs) = none := by rfl
@[simp] theorem q_so_int {x : Int} : seqOf s (.int x) = none := by rfl
@[simp] theorem q_so_bl {x : Bool} : seqOf s (.bl x) = none := by rfl
@[simp] theorem q_so_non : seqOf s .non = none := by rfl
@[simp] theorem q_so_cel : seqOf s (.cel n) = coList (unK (getCo s.sto n)) := by rfl
@[simp] theorem q_len_str {x : List Nat} : lenGO [.str x] s = if x.length ≤ line then .ok (.int x.length) s else .bad := by rfl
@[simp] theorem q_len_tup {x : List D} : lenGO [.tup x] s = .ok (.int x.length) s := by rfl
@[simp] theorem q_len_lst {x : List D} : lenGO [.lst x] s = .ok (.int x.length) s := by rfl
@[simp] theorem q_len_dct {x : List (D × D)} : lenGO [.dct x] s = .ok (.int x.length) s := by rfl
@[simp] theorem q_len_scr {x : List Int} : lenGO [.scr x] s = .ok (.int x.length) s := by
  show R.ok (D.int (x.map D.int).length) s = _
  rw [List.length_map]
@[simp] theorem q_tr_non : truthD s .non = some false := by rfl
@[simp] theorem q_tr_int {j : Int} : truthD s (.int j) = some (decide (j ≠ 0)) := by rfl
@[simp] theorem q_tr_tup {xs : List D} : truthD s (.tup xs) = some (!xs.isEmpty) := by rfl
@[simp] theorem q_tr_lst {xs : List D} : truthD s (.lst xs) = some (!xs.isEmpty) := by rfl
@[simp] theorem q_tupleO_lst {x : List D} : tupleO [.lst x] s = .ok (.tup x) s := by rfl
@[simp] theorem q_tupleO_tup {x : List D} : tupleO [.tup x] s = .ok (.tup x) s := by rfl
@[simp] theorem q_listGO_tup {x : List D} : listGO [.tup x] s = .ok (.lst x) s := by rfl
@[simp] theorem q_listGO_lst {x : List D} : listGO [.lst x] s = .ok (.lst x) s := by rfl
@[simp] theorem q_listGO_dct {x : List (D × D)} : listGO [.dct x] s = .ok (.lst (x.map (·.1))) s := by rfl
theorem blsOf_map {α : Type} {xs : List α} {b : α → Bool} : blsOf (xs.map fun x => D.bl (b x)) = some (xs.map b) := by
  induction xs with
  | nil => rfl
  | cons x r ih =>
    show (blsOf (r.map fun x => D.bl (b x))).map (b x :: ·) = _
    rw [ih]
    rfl
theorem all_map {α : Type} {xs : List α} {b : α → Bool} : allO [.lst (xs.map fun x => D.bl (b x))] s = .ok (.bl (xs.all b)) s := by
  show (match (blsOf (xs.map fun x => D.bl (b x))) with | some bs => R.ok (D.bl (bs.all id)) s | none => R.bad) = _
  rw [blsOf_map]
  simp [List.all_map]
theorem any_map {α : Type} {xs : List α} {b : α → Bool} : anyO [.lst (xs.map fun x => D.bl (b x))] s = .ok (.bl (xs.any b)) s := by
  show (match (blsOf (xs.map fun x => D.bl (b x))) with | some bs => R.ok (D.bl (bs.any id)) s | none => R.bad) = _
  rw [blsOf_map]
  simp [List.any_map]
@[simp] theorem q_strI : strI f s = (f s).bind fun d s => match d with
  | .str xs => .ok (fixN (xs.map fun c => .str [c])) s
  | _ => .bad := by rfl
@[simp] theorem q_tupI : tupI f s = (f s).bind fun d s => match d with
  | .tup xs => .ok (fixN xs) s
  | _ => .bad := by rfl
/-- .. by a test that is never run: the kernel counts where the number is a Nat -/
noncomputable def iteC {α : Type} (p : Prop) (a b : α) : α := @ite α p (Classical.propDecidable p) a b
@[simp] theorem iteC_pos {α : Type} {p : Prop} {a b : α} (h : p) : iteC p a b = a := by unfold iteC; rw [if_pos h]
theorem iteC_eq {α : Type} {p : Prop} [Decidable p] {a b : α} : (if p then a else b) = iteC p a b := by
  unfold iteC
  by_cases h : p
  · rw [if_pos h, if_pos h]
  · rw [if_neg h, if_neg h]
@[simp] theorem q_rng1 : rng1I f s = (f s).bind fun d s => match d with
  | .int j => iteC (small62 j = true) (.ok (rngN 0 j.toNat) s) .bad
  | _ => .bad := by
  unfold rng1I
  congr 1; funext d s
  cases d with
  | int j => exact iteC_eq
  | _ => rfl
@[simp] theorem q_rng2 : rng2I f g s = (f s).bind fun d s => (g s).bind fun e s => match d, e with
  | .int i, .int j => iteC ((small62 i && small62 j) = true) (.ok (rngN i (j - i).toNat) s) .bad
  | _, _ => .bad := by
  unfold rng2I
  congr 1; funext d s; congr 1; funext e s
  cases d with
  | int i =>
    cases e with
    | int j => exact iteC_eq
    | _ => rfl
  | _ => rfl
@[simp] theorem q_in_str {c : Nat} {z : List Nat} : inD (.str [c]) (.str z) s = .ok (.bl (z.contains c)) s := by rfl
@[simp] theorem q_ni_str {c : Nat} {z : List Nat} : niD (.str [c]) (.str z) s = .ok (.bl (!z.contains c)) s := by rfl
@[simp] theorem q_leS {x y : List Nat} : leD (.str x) (.str y) s = .ok (.bl (!ltN y x)) s := by rfl
@[simp] theorem q_ltS {x y : List Nat} : ltD (.str x) (.str y) s = .ok (.bl (ltN x y)) s := by rfl
@[simp] theorem q_gtS {x y : List Nat} : gtD (.str x) (.str y) s = .ok (.bl (ltN y x)) s := by rfl
@[simp] theorem q_geS {x y : List Nat} : geD (.str x) (.str y) s = .ok (.bl (!ltN x y)) s := by rfl
@[simp] theorem q_yesT : yesT s = .ok true s := by rfl
@[simp] theorem q_tupG {gs : Gxs} : tupG gs d s = match d with
  | .tup ds => gs ds s
  | _ => .bad := by rfl
@[simp] theorem q_consG {tg : Gx} {gs : Gxs} {d : D} {r : List D} : consG tg gs (d :: r) s = (tg d s).bind fun _ s => gs r s := by rfl
@[simp] theorem q_nilG : nilG [] s = .ok () s := by rfl
@[simp] theorem q_asgS {tg : Gx} : asgS tg f s = (f s).bind fun d s => match tg d s with
  | .ok _ s => .ok .nx s
  | _ => .bad := by rfl
@[simp] theorem q_neg : negE f s = (f s).bind fun d s => match d with
  | .int i => .ok (.int (-i)) s
  | _ => .bad := by rfl
@[simp] theorem q_addL {xs ys : List D} : addD (.lst xs) (.lst ys) s = if xs.length + ys.length ≤ line then .ok (.lst (xs ++ ys)) s else .bad := by rfl
@[simp] theorem q_emptyF : emptyF s = .ok (.M []) s := by rfl
@[simp] theorem q_mth {k : String} {op : Mop} : mthE k op f fs s = (f s).bind fun d s => if kindOk k s d then (fs s).bind fun ds s => op d ds s else .bad := by rfl
@[simp] theorem q_kind_str {x : List Nat} {k : String} : kindOk k s (.str x) = decide (k = "str") := by rfl
@[simp] theorem q_isn {d : D} : isD d .non s = truR s (isB d .non) := by rfl
@[simp] theorem q_isnn {d : D} : isNotD d .non s = truR s ((isB d .non).map not) := by rfl
@[simp] theorem q_truR {b : Bool} : truR s (some b) = .ok (.bl b) s := by rfl
@[simp] theorem q_sl_lst {xs : List D} {lo hi : Option Int} : sliceD (.lst xs) lo hi s = .ok (.lst (cutN xs lo hi)) s := by rfl
@[simp] theorem q_sl_str {xs : List Nat} {lo hi : Option Int} : sliceD (.str xs) lo hi s = if xs.length ≤ line then .ok (.str (cutN xs lo hi)) s else .bad := by rfl
@[simp] theorem q_whileS {c : Tx} {b : Sx} : whileS c b s = whileLoop c b fuel s := by rfl
@[simp] theorem q_ixD_lst {xs : List D} {k : D} : ixD (.lst xs) k s = ixAt (some xs) k s := by rfl
@[simp] theorem q_ixD_tup {xs : List D} {k : D} : ixD (.tup xs) k s = ixAt (some xs) k s := by rfl
@[simp] theorem q_ixD_dct {xs : List (D × D)} {k : D} : ixD (.dct xs) k s = ixDct xs k s := by rfl
@[simp] theorem q_ixAt {xs : List D} {j : Int} : ixAt (some xs) (.int j) s = match atI xs j with
  | some r => .ok r s
  | none => .bad := by rfl
theorem atI_nat {α : Type} {xs : List α} {j : Nat} (h : j < xs.length) : atI xs (j : Int) = some xs[j] := by
  unfold atI ixN
  simp [h]
theorem ixAt_nat {xs : List D} {j : Nat} (h : j < xs.length) : ixAt (some xs) (.int (j : Int)) s = .ok xs[j] s := by
  rw [q_ixAt, atI_nat h]
@[simp] theorem eqLD_nil {xs : List D} : eqLD (.lst xs) (.lst []) s = .ok (.bl xs.isEmpty) s := by rfl
@[simp] theorem neLD_nil {xs : List D} : neLD (.lst xs) (.lst []) s = .ok (.bl (!xs.isEmpty)) s := by rfl

end
theorem small_of {i : Int} (h0 : -1000000000000 ≤ i) (h : i ≤ 1000000000000) : small62 i = true := by
  unfold small62
  simp
  omega
theorem ltN_one {a b : Nat} : ltN [a] [b] = decide (a < b) := by simp [ltN]
end G
namespace G
open PySem PySem.Spec PyProof.Rows L2
open PySem.W (dataLt)
theorem least_ints {i j : Int} {s : S} : leastO [.int i, .int j] s = .ok (.int (if j < i then j else i)) s := by
  have e : leastO [.int i, .int j] s = if datsOk [.int i, .int j] then .ok (leastD (.int i) [.int j]) s else .bad := rfl
  rw [e, if_pos (by rfl)]
  show R.ok (if dataLt (py (.int j)) (py (.int i)) then D.int j else D.int i) s = _
  have k : dataLt (py (.int j)) (py (.int i)) = decide (j < i) := by
    show (itemOrd.blt (.inl j) (.inl i) || (!itemOrd.blt (.inl i) (.inl j) && false)) = _
    rw [Bool.and_false, Bool.or_false]
    rfl
  rw [k]
  by_cases c : j < i <;> simp [c]
theorem max2_ints {i j : Int} {s : S} : max2O [.int i, .int j] s = .ok (.int (if j > i then j else i)) s := by rfl
end G

set_option Elab.async false
set_option linter.all false
set_option maxRecDepth 100000
set_option maxHeartbeats 4000000
/-! plain laws: repr of small data -/
namespace G
open PySem PySem.Spec PyProof.Rows L2
/-- small data, nested at most so deep -/
def sd : Nat → D → Bool
  | _, .non => true
  | _, .bl _ => true
  | _, .int i => decide (i.natAbs < 10 ^ 60)
  | _, .str x => codeOk x
  | n + 1, .lst xs => xs.all (sd n)
  | n + 1, .tup xs => xs.all (sd n)
  | _, _ => false
mutual
/-- how long its repr is at most -/
def shl : D → Nat
  | .int _ => 61
  | .str x => 10 * x.length + 2
  | .lst xs => shls xs + 3
  | .tup xs => shls xs + 3
  | .dct kvs => shle kvs + 3
  | _ => 5
def shls : List D → Nat
  | [] => 0
  | x :: xs => shl x + 2 + shls xs
def shle : List (D × D) → Nat
  | [] => 0
  | (k, d) :: xs => shl k + shl d + 4 + shle xs
end
theorem toStr_length (x : List Nat) : (toStr x).length = x.length := by
  show x.toArray.size = x.length
  simp
theorem shown_int60 {i : Int} (h : i.natAbs < 10 ^ 60) : (PyData.shown (.int i)).length ≤ 61 := by
  have e := int_text_length_le10 (k := 60) (by decide) h
  show (Str.ofString (toString i)).length ≤ 61
  rw [PySem.ofString_length]; exact e
theorem shown_str {x : List Nat} (h : codeOk x = true) : (PyData.shown (.str (toStr x))).length ≤ 10 * x.length + 2 := by
  have e := StrLaws.reprText_len (toStr x) (by
    intro c hc
    have hc : c ∈ x := by simpa [toStr] using hc
    have := (List.all_eq_true.mp h) c hc
    simp only [decide_eq_true_eq] at this
    have e : (16 : Nat) ^ 8 = 4294967296 := by decide
    omega)
  rw [toStr_length] at e
  exact e
mutual
theorem sd_shl : ∀ (n : Nat) (d : D), sd n d = true → (py d).shown.length ≤ shl d
  | n, .non, _ => by simp only [py, shl]; decide
  | n, .bl b, _ => by cases b <;> (simp only [py, shl]; decide)
  | n, .int i, h => by
    have h : i.natAbs < 10 ^ 60 := by cases n <;> simpa [sd] using h
    simp only [py, shl]
    exact shown_int60 h
  | n, .str x, h => by
    have h : codeOk x = true := by cases n <;> simpa [sd] using h
    simp only [py, shl]
    exact shown_str h
  | 0, .lst xs, h => by simp [sd] at h
  | 0, .tup xs, h => by simp [sd] at h
  | n + 1, .lst xs, h => by
    have h : xs.all (sd n) = true := by simpa [sd] using h
    have h1 := sds_shl n xs h
    have h2 := listText_len_le (PyData.shownAll (pys xs))
    simp only [py, shl, PyData.shown]
    omega
  | n + 1, .tup xs, h => by
    have h : xs.all (sd n) = true := by simpa [sd] using h
    have h1 := sds_shl n xs h
    have h2 := tupleText_len_le (PyData.shownAll (pys xs))
    simp only [py, shl, PyData.shown]
    omega
  | n, .dct _, h => by cases n <;> simp [sd] at h
  | n, .cel _, h => by cases n <;> simp [sd] at h
  | n, .own _, h => by cases n <;> simp [sd] at h
  | n, .scr _, h => by cases n <;> simp [sd] at h
theorem sds_shl : ∀ (n : Nat) (xs : List D), xs.all (sd n) = true → ((PyData.shownAll (pys xs)).map (·.length)).sum + 2 * (PyData.shownAll (pys xs)).length ≤ shls xs
  | n, [], _ => by simp [pys, PyData.shownAll, shls]
  | n, x :: xs, h => by
    have h' : sd n x = true ∧ xs.all (sd n) = true := by simpa [List.all_cons] using h
    have h1 := sd_shl n x h'.1
    have h2 := sds_shl n xs h'.2
    simp only [pys, PyData.shownAll, shls, List.map_cons, List.sum_cons, List.length_cons]
    omega
end
mutual
theorem sd_showable : ∀ (n : Nat) (d : D), sd n d = true → (py d).showable = true
  | n, .non, _ => by simp only [py, PyData.showable]
  | n, .bl b, _ => by simp only [py, PyData.showable]
  | n, .int i, h => by
    have h : i.natAbs < 10 ^ 60 := by cases n <;> simpa [sd] using h
    simp only [py, PyData.showable, decide_eq_true_eq]
    by_cases z : i.natAbs = 0
    · rw [z]; decide
    · refine (Nat.log2_lt z).mpr (Nat.lt_trans h ?_)
      decide +kernel
  | n, .str x, h => by simp only [py, PyData.showable]
  | 0, .lst xs, h => by simp [sd] at h
  | 0, .tup xs, h => by simp [sd] at h
  | n + 1, .lst xs, h => by
    have h : xs.all (sd n) = true := by simpa [sd] using h
    simp only [py, PyData.showable]
    exact sds_showable n xs h
  | n + 1, .tup xs, h => by
    have h : xs.all (sd n) = true := by simpa [sd] using h
    simp only [py, PyData.showable]
    exact sds_showable n xs h
  | n, .dct _, h => by cases n <;> simp [sd] at h
  | n, .cel _, h => by cases n <;> simp [sd] at h
  | n, .own _, h => by cases n <;> simp [sd] at h
  | n, .scr _, h => by cases n <;> simp [sd] at h
theorem sds_showable : ∀ (n : Nat) (xs : List D), xs.all (sd n) = true → PyData.showableAll (pys xs) = true
  | n, [], _ => by simp [pys, PyData.showableAll]
  | n, x :: xs, h => by
    have h' : sd n x = true ∧ xs.all (sd n) = true := by simpa [List.all_cons] using h
    simp only [pys, PyData.showableAll, sd_showable n x h'.1, sds_showable n xs h'.2, Bool.and_self]
end
theorem sd_dat : ∀ (n : Nat) (d : D), sd n d = true → dat n d = true
  | n, .non, _ => by cases n <;> rfl
  | n, .bl b, _ => by cases n <;> rfl
  | n, .int i, h => by cases n <;> rfl
  | n, .str x, h => by cases n <;> simpa [sd, dat] using h
  | 0, .lst xs, h => by simp [sd] at h
  | 0, .tup xs, h => by simp [sd] at h
  | n + 1, .lst xs, h => by
    have h : xs.all (sd n) = true := by simpa [sd] using h
    simp only [dat]
    exact List.all_eq_true.mpr fun x hx => sd_dat n x (List.all_eq_true.mp h x hx)
  | n + 1, .tup xs, h => by
    have h : xs.all (sd n) = true := by simpa [sd] using h
    simp only [dat]
    exact List.all_eq_true.mpr fun x hx => sd_dat n x (List.all_eq_true.mp h x hx)
  | n, .dct _, h => by cases n <;> simp [sd] at h
  | n, .cel _, h => by cases n <;> simp [sd] at h
  | n, .own _, h => by cases n <;> simp [sd] at h
  | n, .scr _, h => by cases n <;> simp [sd] at h
theorem sd_up : ∀ (n : Nat) (d : D) (m : Nat), sd n d = true → n ≤ m → sd m d = true
  | n, .non, m, _, _ => by cases m <;> rfl
  | n, .bl b, m, _, _ => by cases m <;> rfl
  | n, .int i, m, h, _ => by cases n <;> cases m <;> simpa [sd] using h
  | n, .str x, m, h, _ => by cases n <;> cases m <;> simpa [sd] using h
  | 0, .lst xs, m, h, _ => by simp [sd] at h
  | 0, .tup xs, m, h, _ => by simp [sd] at h
  | n + 1, .lst xs, 0, _, hm => by omega
  | n + 1, .tup xs, 0, _, hm => by omega
  | n + 1, .lst xs, m + 1, h, hm => by
    have h : xs.all (sd n) = true := by simpa [sd] using h
    simp only [sd]
    exact List.all_eq_true.mpr fun x hx => sd_up n x m (List.all_eq_true.mp h x hx) (by omega)
  | n + 1, .tup xs, m + 1, h, hm => by
    have h : xs.all (sd n) = true := by simpa [sd] using h
    simp only [sd]
    exact List.all_eq_true.mpr fun x hx => sd_up n x m (List.all_eq_true.mp h x hx) (by omega)
  | n, .dct _, m, h, _ => by cases n <;> simp [sd] at h
  | n, .cel _, m, h, _ => by cases n <;> simp [sd] at h
  | n, .own _, m, h, _ => by cases n <;> simp [sd] at h
  | n, .scr _, m, h, _ => by cases n <;> simp [sd] at h
theorem dat_viewN {s : S} : ∀ (m n : Nat) (d : D), dat n d = true → viewN m s d = d
  | 0, _, d, _ => by simp [viewN]
  | m + 1, n, .non, _ => by simp [viewN]
  | m + 1, n, .bl b, _ => by simp [viewN]
  | m + 1, n, .int i, h => by simp [viewN]
  | m + 1, n, .str x, h => by simp [viewN]
  | m + 1, 0, .lst xs, h => by simp [dat] at h
  | m + 1, 0, .tup xs, h => by simp [dat] at h
  | m + 1, n + 1, .lst xs, h => by
    have h : xs.all (dat n) = true := by simpa [dat] using h
    simp only [viewN]
    rw [List.map_congr_left fun x hx => dat_viewN m n x (List.all_eq_true.mp h x hx), List.map_id']
  | m + 1, n + 1, .tup xs, h => by
    have h : xs.all (dat n) = true := by simpa [dat] using h
    simp only [viewN]
    rw [List.map_congr_left fun x hx => dat_viewN m n x (List.all_eq_true.mp h x hx), List.map_id']
  | m + 1, n, .dct _, h => by cases n <;> simp [dat] at h
  | m + 1, n, .cel _, h => by cases n <;> simp [dat] at h
  | m + 1, n, .own _, h => by cases n <;> simp [dat] at h
  | m + 1, n, .scr _, h => by cases n <;> simp [dat] at h
theorem dat_view {s : S} {n : Nat} {d : D} (h : dat n d = true) : view s d = d := dat_viewN 60 n d h
/-- repr comes to an end, the same wherever it is asked -/
def Rpr (d : D) : Prop := ∃ x : List Nat, ∀ s, reprGO [d] s = .ok (.str x) s
theorem rpr_sd {n : Nat} {d : D} (h : sd n d = true) (hn : n ≤ 50) (hl : shl d ≤ 16777216) : Rpr d := by
  have h50 := sd_up n d 50 h hn
  have hd := sd_dat 50 d h50
  have hlen : (shw d).length ≤ line := by
    have e : (shw d).length = (py d).shown.length := by
      show (py d).shown.cps.toList.length = (py d).shown.cps.size
      simp
    have := sd_shl 50 d h50
    show _ ≤ 16777216
    omega
  have ro : ∀ s, reprO [d] s = .ok (.str (shw d)) s := by
    intro s
    unfold reprO
    simp only [dat_view hd, hd, sd_showable 50 d h50, Bool.true_and]
    rw [if_pos (Nat.ble_eq.mpr hlen)]
  by_cases c : (datK 9 d && (pyK 9 d).showable && Nat.ble (pyK 9 d).depth 50 && Nat.ble (shwK d).length line) = true
  · exact ⟨shwK d, fun s => by unfold reprGO; simp only []; rw [if_pos c]⟩
  · exact ⟨shw d, fun s => by unfold reprGO; simp only []; rw [if_neg c]; exact ro s⟩
/-- small data with dicts, without lists -/
def sk : Nat → D → Bool
  | _, .non => true
  | _, .bl _ => true
  | _, .int i => decide (i.natAbs < 10 ^ 60)
  | _, .str x => codeOk x
  | n + 1, .tup xs => xs.all (sk n)
  | n + 1, .dct kvs => kvs.all fun p => sk n p.1 && sk n p.2
  | _, _ => false
theorem shownAll_eq (xs : List PyData) : PyData.shownAll xs = xs.map PyData.shown := by
  induction xs with
  | nil => simp only [PyData.shownAll, List.map_nil]
  | cons x r ih => simp only [PyData.shownAll, List.map_cons, ih]
theorem shownKv_eq (xs : List (PyData × PyData)) : PyData.shownKv xs = xs.map fun p => (p.1.shown ++ ": " ++ p.2.shown : Str) := by
  induction xs with
  | nil => simp only [PyData.shownKv, List.map_nil]
  | cons x r ih => obtain ⟨k, v⟩ := x; simp only [PyData.shownKv, List.map_cons, ih]
theorem showableAll_eq (xs : List PyData) : PyData.showableAll xs = xs.all PyData.showable := by
  induction xs with
  | nil => simp only [PyData.showableAll, List.all_nil]
  | cons x r ih => simp only [PyData.showableAll, List.all_cons, ih]
theorem showableKv_eq (xs : List (PyData × PyData)) : PyData.showableKv xs = xs.all fun p => p.1.showable && p.2.showable := by
  induction xs with
  | nil => simp only [PyData.showableKv, List.all_nil]
  | cons x r ih => obtain ⟨k, v⟩ := x; simp only [PyData.showableKv, List.all_cons, ih]
theorem depthAll_le (n : Nat) (xs : List PyData) (h : ∀ x ∈ xs, x.depth ≤ n) : PyData.depthAll xs ≤ n := by
  induction xs with
  | nil => simp only [PyData.depthAll]; omega
  | cons x r ih =>
    have h1 := h x List.mem_cons_self
    have h2 := ih fun y hy => h y (List.mem_cons_of_mem _ hy)
    simp only [PyData.depthAll]
    omega
theorem depthKv_le (n : Nat) (xs : List (PyData × PyData)) (h : ∀ x ∈ xs, x.1.depth ≤ n ∧ x.2.depth ≤ n) : PyData.depthKv xs ≤ n := by
  induction xs with
  | nil => simp only [PyData.depthKv]; omega
  | cons x r ih =>
    have h1 := h x List.mem_cons_self
    have h2 := ih fun y hy => h y (List.mem_cons_of_mem _ hy)
    obtain ⟨k, v⟩ := x
    simp only [PyData.depthKv]
    simp only at h1
    omega
theorem shls_eq (xs : List D) : shls xs = (xs.map fun x => shl x + 2).sum := by
  induction xs with
  | nil => simp only [shls, List.map_nil, List.sum_nil]
  | cons x r ih => simp only [shls, List.map_cons, List.sum_cons, ih]
theorem shle_eq (xs : List (D × D)) : shle xs = (xs.map fun p => shl p.1 + shl p.2 + 4).sum := by
  induction xs with
  | nil => simp only [shle, List.map_nil, List.sum_nil]
  | cons x r ih => obtain ⟨k, v⟩ := x; simp only [shle, List.map_cons, List.sum_cons, ih]
theorem sum_le_sum {α : Type} (xs : List α) (f g : α → Nat) (h : ∀ x ∈ xs, f x ≤ g x) : (xs.map f).sum ≤ (xs.map g).sum := by
  induction xs with
  | nil => simp
  | cons x r ih =>
    have h1 := h x List.mem_cons_self
    have h2 := ih fun y hy => h y (List.mem_cons_of_mem _ hy)
    simp only [List.map_cons, List.sum_cons]
    omega
theorem sum_add_two {α : Type} (xs : List α) (f : α → Nat) : (xs.map fun x => f x + 2).sum = (xs.map f).sum + 2 * xs.length := by
  induction xs with
  | nil => simp
  | cons x r ih => simp only [List.map_cons, List.sum_cons, List.length_cons, ih]; omega
theorem sk_all : ∀ (n : Nat) (d : D), sk n d = true → ∀ m, n ≤ m → datK m d = true ∧ (pyK m d).showable = true ∧ (pyK m d).depth ≤ n ∧ (pyK m d).shown.length ≤ shl d
  | n, .non, _, m, _ => by cases m <;> (simp only [datK, pyK, PyData.showable, PyData.depth, shl]; exact ⟨trivial, trivial, Nat.zero_le _, by decide⟩)
  | n, .bl b, _, m, _ => by cases m <;> cases b <;> (simp only [datK, pyK, PyData.showable, PyData.depth, shl]; exact ⟨trivial, trivial, Nat.zero_le _, by decide⟩)
  | n, .int i, h, m, _ => by
    have h : i.natAbs < 10 ^ 60 := by cases n <;> simpa [sk] using h
    have e : pyK m (.int i) = .int i := by cases m <;> simp only [pyK]
    have e2 : datK m (.int i) = true := by cases m <;> simp only [datK]
    rw [e, e2]
    refine ⟨rfl, ?_, Nat.zero_le _, ?_⟩
    · have := sd_showable 0 (.int i) (by simp [sd, h])
      simpa only [py] using this
    · simp only [shl]
      exact shown_int60 h
  | n, .str x, h, m, _ => by
    have h : codeOk x = true := by cases n <;> simpa [sk] using h
    have e : pyK m (.str x) = .str (toStr x) := by cases m <;> simp only [pyK]
    have e2 : datK m (.str x) = true := by cases m <;> simp only [datK]
    rw [e, e2]
    exact ⟨rfl, by simp only [PyData.showable], Nat.zero_le _, by simp only [shl]; exact shown_str h⟩
  | n, .lst _, h, m, _ => by cases n <;> simp [sk] at h
  | 0, .tup _, h, m, _ => by simp [sk] at h
  | 0, .dct _, h, m, _ => by simp [sk] at h
  | n, .cel _, h, m, _ => by cases n <;> simp [sk] at h
  | n, .own _, h, m, _ => by cases n <;> simp [sk] at h
  | n, .scr _, h, m, _ => by cases n <;> simp [sk] at h
  | n + 1, .tup xs, h, 0, hm => by omega
  | n + 1, .dct xs, h, 0, hm => by omega
  | n + 1, .tup xs, h, m + 1, hm => by
    have h : ∀ x ∈ xs, sk n x = true := by simpa [sk] using h
    have k := fun x hx => sk_all n x (h x hx) m (by omega)
    simp only [datK, pyK, PyData.showable, PyData.depth, PyData.shown, shl]
    refine ⟨List.all_eq_true.mpr fun x hx => (k x hx).1, ?_, ?_, ?_⟩
    · rw [showableAll_eq, List.all_map]
      exact List.all_eq_true.mpr fun x hx => (k x hx).2.1
    · have := depthAll_le n (xs.map (pyK m)) (by
        intro x hx
        obtain ⟨y, hy, rfl⟩ := List.mem_map.mp hx
        exact (k y hy).2.2.1)
      omega
    · have h2 := tupleText_len_le (PyData.shownAll (xs.map (pyK m)))
      rw [shownAll_eq, List.map_map, List.map_map] at h2
      have h3 := sum_le_sum xs ((fun x : Str => x.length) ∘ PyData.shown ∘ pyK m) shl fun x hx => (k x hx).2.2.2
      rw [shownAll_eq, List.map_map, shls_eq, sum_add_two]
      simp only [List.length_map] at h2
      omega
  | n + 1, .dct kvs, h, m + 1, hm => by
    have h : ∀ x ∈ kvs, sk n x.1 = true ∧ sk n x.2 = true := by
      intro x hx
      have := List.all_eq_true.mp (show kvs.all (fun p => sk n p.1 && sk n p.2) = true by simpa [sk] using h) x hx
      simpa using this
    have k := fun x hx => sk_all n x.1 (h x hx).1 m (by omega)
    have k2 := fun x hx => sk_all n x.2 (h x hx).2 m (by omega)
    simp only [datK, pyK, PyData.showable, PyData.depth, PyData.shown, shl]
    refine ⟨List.all_eq_true.mpr fun x hx => by simp only [(k x hx).1, (k2 x hx).1, Bool.and_self], ?_, ?_, ?_⟩
    · rw [showableKv_eq, List.all_map]
      exact List.all_eq_true.mpr fun x hx => by simp only [Function.comp, (k x hx).2.1, (k2 x hx).2.1, Bool.and_self]
    · have := depthKv_le n (kvs.map fun p => (pyK m p.1, pyK m p.2)) (by
        intro x hx
        obtain ⟨y, hy, rfl⟩ := List.mem_map.mp hx
        exact ⟨(k y hy).2.2.1, (k2 y hy).2.2.1⟩)
      omega
    · have h2 := dictText_len_le (PyData.shownKv (kvs.map fun p => (pyK m p.1, pyK m p.2)))
      rw [shownKv_eq, List.map_map, List.map_map] at h2
      have h3 := sum_le_sum kvs ((fun x : Str => x.length) ∘ (fun p : PyData × PyData => (p.1.shown ++ ": " ++ p.2.shown : Str)) ∘ fun p => (pyK m p.1, pyK m p.2)) (fun p => shl p.1 + shl p.2 + 2) fun x hx => by
        have h4 := (k x hx).2.2.2
        have h5 := (k2 x hx).2.2.2
        simp only [Function.comp]
        have e2 : ((pyK m x.1).shown ++ ": " ++ (pyK m x.2).shown).length = (pyK m x.1).shown.length + 2 + (pyK m x.2).shown.length := by
          rw [strLen_append, strLen_append]; rfl
        omega
      rw [shownKv_eq, List.map_map, shle_eq]
      have e4 : (kvs.map fun p => shl p.1 + shl p.2 + 4).sum = (kvs.map fun p => shl p.1 + shl p.2 + 2).sum + 2 * kvs.length := sum_add_two kvs fun p => shl p.1 + shl p.2 + 2
      simp only [List.length_map] at h2
      omega
theorem rpr_sk {n : Nat} {d : D} (h : sk n d = true) (hn : n ≤ 9) (hl : shl d ≤ 16777216) : Rpr d := by
  obtain ⟨h1, h2, h3, h4⟩ := sk_all n d h 9 hn
  have hlen : (shwK d).length ≤ line := by
    have e : (shwK d).length = (pyK 9 d).shown.length := by
      show (pyK 9 d).shown.cps.toList.length = (pyK 9 d).shown.cps.size
      simp
    show _ ≤ 16777216
    omega
  refine ⟨shwK d, fun s => ?_⟩
  unfold reprGO
  simp only []
  rw [if_pos]
  rw [h1, h2, Nat.ble_eq.mpr hlen, show Nat.ble (pyK 9 d).depth 50 = true from Nat.ble_eq.mpr (by omega)]
  rfl
end G

set_option Elab.async false
set_option linter.all false
set_option maxRecDepth 100000
set_option maxHeartbeats 4000000
/-! plain laws: rules and tables, typed -/
namespace G
open PySem PySem.Spec PyProof.Rows L2
abbrev Wrd := List Nat
abbrev Pl := List Wrd
inductive Ans where
  | gone | nam (n : Wrd) | to (t : Pl) (d : Nat)
  deriving DecidableEq
structure Rule where
  ex : Bool
  pl : Pl
  an : Ans
  deriving DecidableEq
abbrev sEx : Wrd := [101, 120, 97, 99, 116]
abbrev sOp : Wrd := [111, 112, 101, 110]
abbrev sTo : Wrd := [116, 111]
abbrev sGone : Wrd := [103, 111, 110, 101]
abbrev sPage : Wrd := [112, 97, 103, 101]
abbrev sSec : Wrd := [115, 101, 99, 116, 105, 111, 110]
abbrev sNot : Wrd := [110, 111, 116, 104, 105, 110, 103]
def eP (p : Pl) : D := .tup (p.map .str)
def eS (b : Bool) : D := .str (if b then sEx else sOp)
def eA (b : Bool) : Ans → D
  | .gone => .tup [.str sGone]
  | .nam n => .tup [.str (if b then sPage else sSec), .str n]
  | .to t d => .tup [.str sTo, eP t, .int d]
def eR (r : Rule) : D := .tup [eS r.ex, eP r.pl, eA r.ex r.an]
def kR (b : Bool) (p : Pl) : D := .tup [eS b, eP p]
def lines (rs : List Rule) : List (D × D) := rs.map fun r => (kR r.ex r.pl, eR r)
def wordB (x : Wrd) : Bool := decide (1 ≤ x.length) && (decide (x.length ≤ 12) && x.all fun c => decide (97 ≤ c) && decide (c ≤ 122))
def okP (p : Pl) : Prop := p.length ≤ 4 ∧ ∀ w ∈ p, wordB w = true
def okA : Ans → Prop
  | .gone => True
  | .nam n => wordB n = true
  | .to t d => okP t ∧ d ≤ 10000
def okR (r : Rule) : Prop := okP r.pl ∧ okA r.an
def keyOf (r : Rule) : Bool × Pl := (r.ex, r.pl)
/-- rules of a table -/
structure okT (rs : List Rule) : Prop where
  ok : ∀ r ∈ rs, okR r
  nd : (rs.map keyOf).Nodup
  le : rs.length ≤ 40
theorem str_inj_list : ∀ {p q : Pl}, p.map D.str = q.map D.str → p = q
  | [], [], _ => rfl
  | [], _ :: _, h => by cases h
  | _ :: _, [], h => by cases h
  | a :: p, b :: q, h => by
    simp only [List.map_cons, List.cons.injEq, D.str.injEq] at h
    rw [h.1, str_inj_list h.2]
theorem eP_inj {p q : Pl} : eP p = eP q ↔ p = q := by
  constructor
  · intro h
    simp only [eP, D.tup.injEq] at h
    exact str_inj_list h
  · rintro rfl; rfl
theorem eS_inj {a b : Bool} : eS a = eS b ↔ a = b := by cases a <;> cases b <;> simp [eS, sEx, sOp]
theorem kR_inj {a b : Bool} {p q : Pl} : kR a p = kR b q ↔ a = b ∧ p = q := by
  simp only [kR, D.tup.injEq, List.cons.injEq, eS_inj, eP_inj, and_true]
theorem areKeys_strs (p : Pl) : areKeys (p.map D.str) = true := by
  induction p with
  | nil => rfl
  | cons a r ih => simp only [List.map_cons, areKeys, isKey, ih, Bool.and_self]
theorem kdeps_strs (p : Pl) : kdeps (p.map D.str) = 0 := by
  induction p with
  | nil => rfl
  | cons a r ih => simp only [List.map_cons, kdeps, kdep, ih]; rfl
theorem keyT_eP (p : Pl) : keyT (eP p) = true := by
  simp only [keyT, eP, areKeys_strs, kdeps_strs]; rfl
theorem keyT_kR (b : Bool) (p : Pl) : keyT (kR b p) = true := by
  simp only [keyT, kR, eS, eP, areKeys, isKey, areKeys_strs, kdeps, kdep, kdeps_strs]
  rfl
theorem tupKs_lines (rs : List Rule) : tupKs (lines rs) = true := by
  induction rs with
  | nil => rfl
  | cons r rs ih =>
    show (keyT (kR r.ex r.pl) && tupKs (lines rs)) = true
    rw [keyT_kR, ih]; rfl
theorem dctOk_lines (rs : List Rule) (b : Bool) (p : Pl) : dctOk (lines rs) (kR b p) = true := by
  simp only [dctOk, keyT_kR, tupKs_lines, Bool.and_self, Bool.true_or]
def findR (rs : List Rule) (b : Bool) (p : Pl) : Option Rule := rs.find? fun r => decide (keyOf r = (b, p))
theorem getD_lines (rs : List Rule) (b : Bool) (p : Pl) : getD (kR b p) (lines rs) = (findR rs b p).map eR := by
  induction rs with
  | nil => rfl
  | cons r rs ih =>
    show (if beqD (kR r.ex r.pl) (kR b p) = true then some (eR r) else getD (kR b p) (lines rs)) = _
    rw [beqD_eq, ih]
    unfold findR
    rw [List.find?_cons]
    by_cases h : keyOf r = (b, p)
    · have h' : r.ex = b ∧ r.pl = p := by simpa [keyOf] using h
      simp [h, kR_inj, h']
    · have h' : ¬ (r.ex = b ∧ r.pl = p) := by simpa [keyOf] using h
      simp only [kR_inj, h', decide_false, Bool.false_eq_true, if_false, h]
def putRule (r : Rule) : List Rule → List Rule
  | [] => [r]
  | x :: xs => if keyOf x = keyOf r then r :: xs else x :: putRule r xs
theorem putD_lines (r : Rule) (rs : List Rule) : putD (kR r.ex r.pl) (eR r) (lines rs) = lines (putRule r rs) := by
  induction rs with
  | nil => rfl
  | cons x rs ih =>
    show (if beqD (kR x.ex x.pl) (kR r.ex r.pl) = true then (kR x.ex x.pl, eR r) :: lines rs else (kR x.ex x.pl, eR x) :: putD (kR r.ex r.pl) (eR r) (lines rs)) = _
    rw [beqD_eq, ih, putRule]
    by_cases h : keyOf x = keyOf r
    · have h' : x.ex = r.ex ∧ x.pl = r.pl := by simpa [keyOf] using h
      simp [kR_inj, h', h, lines]
    · have h' : ¬ (x.ex = r.ex ∧ x.pl = r.pl) := by simpa [keyOf] using h
      simp [kR_inj, h', h, lines]
theorem putRule_mem {r x : Rule} {rs : List Rule} (h : x ∈ putRule r rs) : x = r ∨ x ∈ rs := by
  induction rs with
  | nil => exact .inl (List.mem_singleton.mp h)
  | cons y rs ih =>
    unfold putRule at h
    split at h
    · rcases List.mem_cons.mp h with h | h
      · exact .inl h
      · exact .inr (List.mem_cons_of_mem _ h)
    · rcases List.mem_cons.mp h with h | h
      · exact .inr (by rw [h]; exact List.mem_cons_self)
      · rcases ih h with h | h
        · exact .inl h
        · exact .inr (List.mem_cons_of_mem _ h)
theorem putRule_key {r : Rule} {rs : List Rule} {k : Bool × Pl} (h : k ∈ (putRule r rs).map keyOf) : k = keyOf r ∨ k ∈ rs.map keyOf := by
  obtain ⟨x, hx, rfl⟩ := List.mem_map.mp h
  rcases putRule_mem hx with rfl | hx
  · exact .inl rfl
  · exact .inr (List.mem_map_of_mem hx)
theorem putRule_nd {r : Rule} {rs : List Rule} (h : (rs.map keyOf).Nodup) : ((putRule r rs).map keyOf).Nodup := by
  induction rs with
  | nil => simp [putRule]
  | cons y rs ih =>
    simp only [List.map_cons, List.nodup_cons] at h
    unfold putRule
    split
    · rename_i e
      simp only [List.map_cons, List.nodup_cons]
      rw [← e]
      exact h
    · rename_i e
      simp only [List.map_cons, List.nodup_cons]
      refine ⟨fun z => ?_, ih h.2⟩
      rcases putRule_key z with z | z
      · exact e z
      · exact h.1 z
theorem putRule_len {r : Rule} {rs : List Rule} : (putRule r rs).length ≤ rs.length + 1 := by
  induction rs with
  | nil => simp [putRule]
  | cons y rs ih =>
    unfold putRule
    split
    · simp only [List.length_cons]; omega
    · simp only [List.length_cons]; omega
theorem putRule_app {r : Rule} {rs : List Rule} (h : keyOf r ∉ rs.map keyOf) : putRule r rs = rs ++ [r] := by
  induction rs with
  | nil => rfl
  | cons y rs ih =>
    simp only [List.map_cons, List.mem_cons, not_or] at h
    unfold putRule
    rw [if_neg (fun z => h.1 z.symm), ih h.2]
    rfl
theorem lines_len (rs : List Rule) : (lines rs).length = rs.length := List.length_map _
/-! ### what answers -/
def ruleFor (rs : List Rule) (a : Pl) : Option Rule := match findR rs true a with
  | some r => some r
  | none => (((List.range ((a.take 4).length + 1)).map fun n => (a.take 4).take n).reverse).findSome? fun p => findR rs false p
def nothing : D := .tup [.str sNot]
def ansR (a : Pl) : Option Rule → D
  | none => nothing
  | some r => match r.ex, r.an with
    | false, .nam n => .tup [.str sSec, .str n, eP (a.drop r.pl.length)]
    | false, .to t d => .tup [.str sTo, eP (t ++ a.drop r.pl.length), .int d]
    | b, an => eA b an
def answer (rs : List Rule) (a : Pl) : D := ansR a (ruleFor rs a)
/-- the redirect that an answer is -/
def toR (a : Pl) : Option Rule → Option (Pl × Nat)
  | some ⟨false, p, .to t d⟩ => some (t ++ a.drop p.length, d)
  | some ⟨true, _, .to t d⟩ => some (t, d)
  | _ => none
theorem findR_mem {rs : List Rule} {b : Bool} {p : Pl} {r : Rule} (h : findR rs b p = some r) : r ∈ rs ∧ r.ex = b ∧ r.pl = p := by
  have h1 := List.mem_of_find?_eq_some h
  have h2 := List.find?_some h
  have h3 : keyOf r = (b, p) := of_decide_eq_true h2
  exact ⟨h1, by simpa [keyOf] using h3⟩
theorem ruleFor_mem {rs : List Rule} {a : Pl} {r : Rule} (h : ruleFor rs a = some r) : r ∈ rs := by
  unfold ruleFor at h
  cases e : findR rs true a with
  | some x => rw [e] at h; cases h; exact (findR_mem e).1
  | none =>
    rw [e] at h
    obtain ⟨p, _, h⟩ := List.exists_of_findSome?_eq_some h
    exact (findR_mem h).1
end G

set_option Elab.async false
set_option linter.all false
set_option maxRecDepth 100000
set_option maxHeartbeats 4000000
namespace K02
open PySem PySem.Spec PyProof.Rows L2 G
def tape (dg mx : Int) : Co := .M [(.str ([100, 105, 103, 105, 116, 115]), .int dg), (.str ([109, 105, 120, 101, 100]), .int mx)]
theorem tape_def (dg mx : Int) : tape dg mx = .M [(.str ([100, 105, 103, 105, 116, 115]), .int dg), (.str ([109, 105, 120, 101, 100]), .int mx)] := by rfl
theorem ix_digits {dg mx : Int} {s : S} : ixDct [(.str ([100, 105, 103, 105, 116, 115]), .int dg), (.str ([109, 105, 120, 101, 100]), .int mx)] (.str ([100, 105, 103, 105, 116, 115])) s = .ok (.int dg) s := by rfl
theorem ix_mixed {dg mx : Int} {s : S} : ixDct [(.str ([100, 105, 103, 105, 116, 115]), .int dg), (.str ([109, 105, 120, 101, 100]), .int mx)] (.str ([109, 105, 120, 101, 100])) s = .ok (.int mx) s := by rfl
theorem put_digits {dg mx y : Int} : putD (.str ([100, 105, 103, 105, 116, 115])) (.int y) [(.str ([100, 105, 103, 105, 116, 115]), .int dg), (.str ([109, 105, 120, 101, 100]), .int mx)] = [(.str ([100, 105, 103, 105, 116, 115]), .int y), (.str ([109, 105, 120, 101, 100]), .int mx)] := by rfl
theorem put_mixed {dg mx y : Int} : putD (.str ([109, 105, 120, 101, 100])) (.int y) [(.str ([100, 105, 103, 105, 116, 115]), .int dg), (.str ([109, 105, 120, 101, 100]), .int mx)] = [(.str ([100, 105, 103, 105, 116, 115]), .int dg), (.str ([109, 105, 120, 101, 100]), .int y)] := by rfl
theorem dct_digits {dg mx : Int} : dctOk [(.str ([100, 105, 103, 105, 116, 115]), .int dg), (.str ([109, 105, 120, 101, 100]), .int mx)] (.str ([100, 105, 103, 105, 116, 115])) = true := by rfl
theorem dct_mixed {dg mx : Int} : dctOk [(.str ([100, 105, 103, 105, 116, 115]), .int dg), (.str ([109, 105, 120, 101, 100]), .int mx)] (.str ([109, 105, 120, 101, 100])) = true := by rfl
theorem log_le {i : Int} {n : Nat} (h0 : 0 ≤ i) (h : i < 2 ^ n) (hn : 0 < n) : i.natAbs.log2 + 1 ≤ n := by
  refine bits_le (i := i) ?_ hn
  have : (i.natAbs : Int) < ((2 ^ n : Nat) : Int) := by
    rw [Int.natAbs_of_nonneg h0]
    push_cast
    exact h
  exact_mod_cast this
theorem pick_ok {s : S} {n : Nat} {dg mx many : Int} (h : getCo s.sto n = some (tape dg mx)) (h0 : 0 ≤ mx) (h1 : mx < 4294967296) (hm : 0 < many) (hm2 : many < 1073741824) :
    ∃ r dg' mx', callF f__law_draw [.cel n, .int many] s = .ok (.int r) { s with sto := s.sto.set n (tape dg' mx') } ∧ 0 ≤ r ∧ r < many ∧ 0 ≤ mx' ∧ mx' < 4294967296 := by
  rw [tape_def] at h
  unfold callF f__law_draw
  rw [runF_eq (by rfl)]
  by_cases hd : many ≤ dg
  · refine ⟨dg % many, dg / many, mx, ?_, Int.emod_nonneg _ (by omega), Int.emod_lt_of_pos _ hm, h0, h1⟩
    simp [b__law_draw, h, ix_digits, ix_mixed, put_digits, put_mixed, dct_digits, dct_mixed, hd, hm, hm2, modI_ok, fdivI_ok, getCo_set h, tape_def, line]
  · have hb : ¬ (many ≤ dg) := hd
    have k1 : (mx * 44111 + 5903).natAbs.log2 + 1 ≤ 64 := log_le (by omega) (by omega) (by decide)
    have k2 : mx.natAbs.log2 + 1 ≤ 32 := log_le h0 (by omega) (by decide)
    have m1 : mulI mx 44111 = some (mx * 44111) := mulI_ok (by
      have : (44111 : Int).natAbs.log2 + 1 ≤ 32 := by decide
      omega)
    generalize hx : (mx * 44111 + 5903) % 2147483647 = x
    have x0 : 0 ≤ x := by omega
    have x1 : x < 2147483647 := by omega
    have p1 : powI x 2 = some (x ^ 2) := powI_ok ⟨by decide, by
      have : x.natAbs.log2 + 1 ≤ 32 := log_le x0 (by omega) (by decide)
      have e : ((2 : Int).toNat) = 2 := rfl
      rw [e]
      omega⟩
    generalize hy : (x ^ 2) % 2147483549 = y
    have y0 : 0 ≤ y := by omega
    have y1 : y < 2147483549 := by omega
    have p2 : powI y 3 = some (y ^ 3) := powI_ok ⟨by decide, by
      have : y.natAbs.log2 + 1 ≤ 32 := log_le y0 (by omega) (by decide)
      have e : ((3 : Int).toNat) = 3 := rfl
      rw [e]
      omega⟩
    refine ⟨(y ^ 3 % 1000000021 / 17) % many, dg, x, ?_, Int.emod_nonneg _ (by omega), Int.emod_lt_of_pos _ hm, x0, by omega⟩
    simp [b__law_draw, h, ix_digits, ix_mixed, put_digits, put_mixed, dct_digits, dct_mixed, hb, hm, hm2, modI_ok, fdivI_ok, getCo_set h, tape_def, line, m1, hx, p1, hy, p2]
theorem merge_tape {dg mx : Int} : mergeD [] [(.str ([100, 105, 103, 105, 116, 115]), .int dg), (.str ([109, 105, 120, 101, 100]), .int mx)] = some [(.str ([100, 105, 103, 105, 116, 115]), .int dg), (.str ([109, 105, 120, 101, 100]), .int mx)] := by kernel_rfl
theorem len_scr {ns : List Int} {s : S} : lenGO [.scr ns] s = .ok (.int ns.length) s := by
  show R.ok (D.int (ns.map D.int).length) s = _
  rw [List.length_map]
theorem ix_scr {ns : List Int} {s : S} {k : Nat} (h : k < ns.length) : ixD (.scr ns) (.int k) s = .ok (.int ns[k]) s := by
  show ixAt (some (ns.map D.int)) (.int k) s = _
  have e : atI (ns.map D.int) (k : Int) = some (.int ns[k]) := by
    unfold atI ixN
    simp [h]
  show (match (some (ns.map D.int)).bind fun xs => atI xs (k : Int) with | some r => R.ok r s | none => R.bad) = _
  rw [Option.bind_some, e]
theorem bits_of {i : Int} (h : Builtin.Int.intBits i ≤ 1048576) : i.natAbs.log2 + 1 ≤ 1048577 := by
  unfold Builtin.Int.intBits at h
  split at h
  · rename_i z
    rw [beq_iff_eq] at z
    subst z
    decide
  · omega
theorem bits_mul' (i j : Int) : bits (i * j) ≤ bits i + bits j := bits_le (bits_mul (natAbs_lt_bits i) (natAbs_lt_bits j)) (by unfold bits; omega)
theorem bits_add' (i j : Int) : bits (i + j) ≤ max (bits i) (bits j) + 1 := bits_le (bits_add (bits_mono (Nat.le_max_left _ _) (natAbs_lt_bits i)) (bits_mono (Nat.le_max_right _ _) (natAbs_lt_bits j))) (by omega)
theorem tape_turn {m z : Int} (h0 : 0 ≤ m) (h1 : m < 4294967296) (hz : z.natAbs.log2 + 1 ≤ 1048577) : mulI m 70019 = some (m * 70019) ∧ mulI z z = some (z * z) ∧ powI (m * 70019 + z * z + 59) 2 = some ((m * 70019 + z * z + 59) ^ 2) := by
  have k1 : bits m ≤ 32 := log_le h0 h1 (by decide)
  have k2 : bits 70019 ≤ 17 := by decide
  have k3 : bits z ≤ 1048577 := hz
  have k4 : bits 59 ≤ 6 := by decide
  have k5 := bits_mul' m 70019
  have k6 := bits_mul' z z
  have k7 := bits_add' (m * 70019) (z * z)
  have k8 := bits_add' (m * 70019 + z * z) 59
  refine ⟨mulI_ok ?_, mulI_ok ?_, powI_ok ⟨by decide, ?_⟩⟩
  · show bits m + bits 70019 ≤ _
    omega
  · show bits z + bits z ≤ _
    omega
  · show bits _ * 2 ≤ _
    omega
theorem tape_ok {s : S} {ns : List Int} {k : Nat} (hl : ns.length ≤ 63) (hb : ∀ z ∈ ns, Builtin.Int.intBits z ≤ 1048576) (hk : k < 1000) :
    ∃ dg mx, callF f__law_well [.scr ns, .int k] s = .ok (.cel s.sto.length) { s with sto := s.sto ++ [tape dg mx] } ∧ 0 ≤ mx ∧ mx < 4294967296 := by
  have k97 : mulI (k : Int) 97 = some ((k : Int) * 97) := mulI_ok (by
    have : bits (k : Int) ≤ 10 := log_le (by omega) (by omega) (by decide)
    show bits _ + bits _ ≤ _
    have : bits 97 ≤ 7 := by decide
    omega)
  have loop : ∀ (m0 : Int) (x0 : Slot), 0 ≤ m0 → m0 < 4294967296 → ∃ s', forLoop (fixN (ns.map D.int)) (nameG 3) b__law_well_l1 fuel 0 ⟨[.val (.scr ns), .val (.int k), .val (.int m0), x0, .emp], s.sto⟩ = .ok .nx s' ∧ ∃ m x, s' = ⟨[.val (.scr ns), .val (.int k), .val (.int m), x, .emp], s.sto⟩ ∧ 0 ≤ m ∧ m < 4294967296 := by
    intro m0 x0 h0 h1
    have := for_inv (xs := ns.map D.int) (tg := nameG 3) (body := b__law_well_l1) (s := ⟨[.val (.scr ns), .val (.int k), .val (.int m0), x0, .emp], s.sto⟩) (E := fun _ _ => False)
      (P := fun _ s' => ∃ m x, s' = ⟨[.val (.scr ns), .val (.int k), .val (.int m), x, .emp], s.sto⟩ ∧ 0 ≤ m ∧ m < 4294967296) (by rw [List.length_map]; unfold fuel; omega) ⟨m0, x0, rfl, h0, h1⟩ ?_
    · rcases this with ⟨s', e, p⟩ | ⟨_, _, _, f⟩
      · exact ⟨s', e, p⟩
      · exact f.elim
    · rintro i d s1 hd ⟨m, x, rfl, g0, g1⟩
      obtain ⟨z, hz, rfl⟩ : ∃ z, z ∈ ns ∧ d = .int z := by
        have := List.mem_of_getElem? hd
        obtain ⟨z, h1, h2⟩ := List.mem_map.mp this
        exact ⟨z, h1, h2.symm⟩
      obtain ⟨t1, t2, t3⟩ := tape_turn g0 g1 (bits_of (hb z hz))
      refine ⟨⟨[.val (.scr ns), .val (.int k), .val (.int m), .val (.int z), .emp], s.sto⟩, by simp, .inl ⟨⟨[.val (.scr ns), .val (.int k), .val (.int ((m * 70019 + z * z + 59) ^ 2 % 2147483489 + 13)), .val (.int z), .emp], s.sto⟩, ?_, (m * 70019 + z * z + 59) ^ 2 % 2147483489 + 13, .val (.int z), rfl, ?_, ?_⟩⟩
      · simp [b__law_well_l1, t1, t2, t3, modI_ok]
      · omega
      · omega
  obtain ⟨s', e, m, x, rfl, g0, g1⟩ := loop (8011 + (k : Int) * 97) .emp (by omega) (by omega)
  have p18 : powI 10 18 = some 1000000000000000000 := by decide
  by_cases h1 : k < ns.length
  · have h1' : (k : Int) < (ns.length : Int) := by omega
    by_cases h2 : (1000000000000000000 : Int) ≤ ns[k]
    · refine ⟨ns[k] - 1000000000000000000, m, ?_, g0, g1⟩
      unfold callF f__law_well
      rw [runF_eq (by rfl)]
      simp [b__law_well, k97, e, len_scr, ix_scr h1, h1', h2, p18, tape_def, merge_tape]
    · refine ⟨0, m, ?_, g0, g1⟩
      unfold callF f__law_well
      rw [runF_eq (by rfl)]
      simp [b__law_well, k97, e, len_scr, ix_scr h1, h1', h2, p18, tape_def, merge_tape]
  · have h1' : ¬ (k : Int) < (ns.length : Int) := by omega
    refine ⟨0, m, ?_, g0, g1⟩
    unfold callF f__law_well
    rw [runF_eq (by rfl)]
    simp [b__law_well, k97, e, len_scr, h1', p18, tape_def, merge_tape]
end K02

set_option Elab.async false
set_option linter.all false
set_option maxRecDepth 100000
set_option maxHeartbeats 4000000
namespace K02
open PySem PySem.Spec PyProof.Rows L2 G
/-- the tape stands at n -/
def Tp (n : Nat) (sto : List Co) : Prop := ∃ dg mx, getCo sto n = some (tape dg mx) ∧ 0 ≤ mx ∧ mx < 4294967296
/-- nothing but the tape at n went on -/
def Nt (n : Nat) (a b : List Co) : Prop := ∃ dg mx, b = a.set n (tape dg mx) ∧ 0 ≤ mx ∧ mx < 4294967296
theorem Tp.lt {n : Nat} {sto : List Co} (h : Tp n sto) : n < sto.length := let ⟨_, _, e, _⟩ := h; getCo_lt e
theorem Nt.tp {n : Nat} {a b : List Co} (h : Nt n a b) (t : Tp n a) : Tp n b := by
  obtain ⟨dg, mx, rfl, h0, h1⟩ := h
  obtain ⟨_, _, e, _⟩ := t
  exact ⟨dg, mx, getCo_set e, h0, h1⟩
theorem Nt.trans {n : Nat} {a b c : List Co} (h : Nt n a b) (k : Nt n b c) : Nt n a c := by
  obtain ⟨dg, mx, rfl, h0, h1⟩ := h
  obtain ⟨dg2, mx2, rfl, k0, k1⟩ := k
  exact ⟨dg2, mx2, by rw [List.set_set], k0, k1⟩
theorem Nt.ne {n m : Nat} {a b : List Co} (h : Nt n a b) (hm : m ≠ n) : getCo b m = getCo a m := by
  obtain ⟨dg, mx, rfl, h0, h1⟩ := h
  exact getCo_ne hm
theorem Nt.len {n : Nat} {a b : List Co} (h : Nt n a b) : b.length = a.length := by
  obtain ⟨dg, mx, rfl, h0, h1⟩ := h
  exact List.length_set
theorem Tp.refl {n : Nat} {a : List Co} (t : Tp n a) : Nt n a a := by
  obtain ⟨dg, mx, e, h0, h1⟩ := t
  refine ⟨dg, mx, ?_, h0, h1⟩
  obtain ⟨hl, e⟩ := List.getElem?_eq_some_iff.mp e
  rw [← e, List.set_getElem_self]
theorem draw_wp {env : List Slot} {sto : List Co} {n : Nat} {many : Int} (t : Tp n sto) (hm : 0 < many) (hm2 : many < 1073741824) : wp (fun d s' => ∃ (r : Int) (sto' : List Co), d = .int r ∧ 0 ≤ r ∧ r < many ∧ s' = ⟨env, sto'⟩ ∧ Nt n sto sto') (callF f__law_draw [.cel n, .int many] ⟨env, sto⟩) := by
  obtain ⟨dg, mx, e, h0, h1⟩ := t
  obtain ⟨r, dg', mx', e2, a, b, c, d⟩ := pick_ok (s := ⟨env, sto⟩) e h0 h1 hm hm2
  exact wp_of_eq e2 ⟨r, _, rfl, a, b, rfl, dg', mx', rfl, c, d⟩
theorem choose_wp {env : List Slot} {sto : List Co} {n : Nat} {xs : List D} (t : Tp n sto) (hx : xs ≠ []) (hl : xs.length < 1000000) : wp (fun d s' => d ∈ xs ∧ ∃ sto' : List Co, s' = ⟨env, sto'⟩ ∧ Nt n sto sto') (callF f__law_choose [.cel n, .lst xs] ⟨env, sto⟩) := by
  refine wp_callF (wp_runF rfl ?_)
  have hp : 0 < xs.length := List.length_pos_iff.mpr hx
  simp [b__law_choose]
  refine wp_mono (draw_wp t (by omega) (by omega)) ?_
  rintro d s' ⟨r, sto', rfl, h0, h1, rfl, nt⟩
  obtain ⟨j, rfl⟩ := Int.eq_ofNat_of_zero_le h0
  have hj : j < xs.length := by omega
  show wp _ (ixAt (some xs) (.int (j : Int)) _)
  rw [ixAt_nat hj]
  refine wp_ret (wp_ret ?_)
  exact ⟨List.getElem_mem hj, sto', rfl, nt⟩
end K02

set_option Elab.async false
set_option linter.all false
set_option maxRecDepth 100000
set_option maxHeartbeats 4000000
/-! plain laws: while; stores that grow; more forms -/
namespace G
open PySem PySem.Spec PyProof.Rows L2
theorem fuel_eq' : fuel = 16777216 := rfl
theorem line_eq' : line = 16777216 := rfl
theorem wp_while {c : Tx} {body : Sx} {Q : Fl → S → Prop} {s : S} (n : Nat) (P : Nat → S → Prop) (hn : n < fuel) (h0 : P n s)
    (hgo : ∀ k s, P k s → wp (fun b s1 => if b then 0 < k ∧ wp (fun fl s2 => match fl with | .nx => holdP (P (k - 1)) s2 | .ct => holdP (P (k - 1)) s2 | .bk => Q .nx s2 | .rt r => Q (.rt r) s2) (body s1) else Q .nx s1) (c s)) : wp Q (whileLoop c body fuel s) := by
  have go : ∀ (f k : Nat) (s : S), k < f → P k s → wp Q (whileLoop c body f s) := by
    intro f
    induction f with
    | zero => intro k s h _; omega
    | succ f ih =>
      intro k s hk hp
      unfold whileLoop
      obtain ⟨b, s1, e1, h1⟩ := wp_iff.mp (hgo k s hp)
      rw [e1, q_bind_ok]
      cases b with
      | false => exact wp_ret h1
      | true =>
        rw [if_pos rfl]
        rw [if_pos rfl] at h1
        obtain ⟨h2, h3⟩ := h1
        obtain ⟨fl, s2, e2, h4⟩ := wp_iff.mp h3
        rw [e2, q_bind_ok]
        cases fl with
        | nx => exact ih (k - 1) s2 (by omega) h4
        | ct => exact ih (k - 1) s2 (by omega) h4
        | bk => exact wp_ret h4
        | rt r => exact wp_ret h4
  exact go fuel n s hn h0
/-- what stood in the store stands -/
def Ext (a b : List Co) : Prop := a.length ≤ b.length ∧ ∀ m, m < a.length → getCo b m = getCo a m
theorem Ext.refl {a : List Co} : Ext a a := ⟨Nat.le_refl _, fun _ _ => rfl⟩
theorem Ext.trans {a b c : List Co} (h : Ext a b) (k : Ext b c) : Ext a c := ⟨Nat.le_trans h.1 k.1, fun m hm => (k.2 m (Nat.lt_of_lt_of_le hm h.1)).trans (h.2 m hm)⟩
theorem Ext.get {a b : List Co} (h : Ext a b) {n : Nat} {c : Co} (e : getCo a n = some c) : getCo b n = some c := (h.2 n (getCo_lt e)).trans e
theorem Ext.app {a b : List Co} : Ext a (a ++ b) := ⟨by simp, fun m hm => by unfold getCo; rw [List.getElem?_append_left hm]⟩
/-- but for what stands at n -/
def ExtB (n : Nat) (a b : List Co) : Prop := a.length ≤ b.length ∧ ∀ m, m < a.length → m ≠ n → getCo b m = getCo a m
theorem ExtB.refl {n : Nat} {a : List Co} : ExtB n a a := ⟨Nat.le_refl _, fun _ _ _ => rfl⟩
theorem ExtB.trans {n : Nat} {a b c : List Co} (h : ExtB n a b) (k : ExtB n b c) : ExtB n a c := ⟨Nat.le_trans h.1 k.1, fun m hm hn => (k.2 m (Nat.lt_of_lt_of_le hm h.1) hn).trans (h.2 m hm hn)⟩
theorem ExtB.get {n m : Nat} {a b : List Co} (h : ExtB n a b) {c : Co} (e : getCo a m = some c) (hn : m ≠ n) : getCo b m = some c := (h.2 m (getCo_lt e) hn).trans e
theorem Ext.b {n : Nat} {a b : List Co} (h : Ext a b) : ExtB n a b := ⟨h.1, fun m hm _ => h.2 m hm⟩
theorem ExtB.set {n : Nat} {a b : List Co} {c : Co} (h : ExtB n a b) : ExtB n a (b.set n c) := ⟨by rw [List.length_set]; exact h.1, fun m hm hn => (getCo_ne hn).trans (h.2 m hm hn)⟩
theorem getCo_at {a : List Co} {c : Co} : getCo (a ++ [c]) a.length = some c := getCo_last
/-- a cell that is new to a may be written -/
theorem Ext.setNew {a b : List Co} {n : Nat} {c : Co} (h : Ext a b) (hn : a.length ≤ n) : Ext a (b.set n c) := ⟨by rw [List.length_set]; exact h.1, fun m hm => (getCo_ne (by omega)).trans (h.2 m hm)⟩
theorem ExtB.setNew {a b : List Co} {n k : Nat} {c : Co} (h : ExtB k a b) (hn : a.length ≤ n) : ExtB k a (b.set n c) := ⟨by rw [List.length_set]; exact h.1, fun m hm hk => (getCo_ne (by omega)).trans (h.2 m hm hk)⟩
section
variable {f g h : Ex} {fs ks : Ax} {s : S} {i n m : Nat} {d e : D}
@[simp] theorem q_kind_cel {k : String} : kindOk k s (.cel n) = match unK (getCo s.sto n) with
    | some (.L _) => decide (k = "list")
    | some (.M _) => decide (k = "dict")
    | _ => false := by rfl
@[simp] theorem q_putCo {c : Co} : putCo s c (.cel n) = match getCo s.sto n with
    | some (.K _) => none
    | some _ => some { s with sto := s.sto.set n c }
    | none => none := by rfl
theorem append_cel {env : List Slot} {sto : List Co} {xs : List D} {y : D} (h : getCo sto n = some (.L xs)) (hl : xs.length < 16777216) : appendM (.cel n) [y] ⟨env, sto⟩ = .ok .non ⟨env, sto.set n (.L (xs ++ [y]))⟩ := by
  have hl' : xs.length < line := by rw [line_eq']; exact hl
  unfold appendM
  simp only [q_ct_cel, h, q_unK_L, hl', if_true]
  unfold putE
  simp only [q_putCo, h]
theorem pop_gen {env : List Slot} {sto : List Co} {xs : List D} {i : Int} {j : Nat} {y : D} (h : getCo sto n = some (.L xs)) (e : (if small62 i then ixN xs.length i else none) = some j) (hy : xs[j]? = some y) : popM (.cel n) [.int i] ⟨env, sto⟩ = .ok y ⟨env, sto.set n (.L (xs.eraseIdx j))⟩ := by
  unfold popM
  rw [q_ct_cel, h, q_unK_L]
  show (match (if small62 i then ixN xs.length i else none) with
      | some j => (match xs[j]? with
        | some y => putE (.L (xs.eraseIdx j)) (.cel n) y ⟨env, sto⟩
        | none => .bad)
      | none => .bad) = _
  rw [e]
  show (match xs[j]? with
        | some y => putE (.L (xs.eraseIdx j)) (.cel n) y ⟨env, sto⟩
        | none => .bad) = _
  rw [hy]
  show (match putCo ⟨env, sto⟩ (.L (xs.eraseIdx j)) (.cel n) with | some s' => R.ok y s' | none => .bad) = _
  rw [q_putCo, h]
theorem pop_ix {k j : Nat} (hj : j < k) (hs : j < 1000000000) : (if small62 (j : Int) then ixN k (j : Int) else none) = some j := by
  have e2 : ixN k (j : Int) = some j := by unfold ixN; simp [hj]
  rw [e2, small_of (by omega) (by omega), if_pos rfl]
theorem pop_cel {env : List Slot} {sto : List Co} {xs : List D} {j : Nat} (h : getCo sto n = some (.L xs)) (hj : j < xs.length) (hs : j < 1000000000) : popM (.cel n) [.int (j : Int)] ⟨env, sto⟩ = .ok xs[j] ⟨env, sto.set n (.L (xs.eraseIdx j))⟩ :=
  pop_gen h (pop_ix hj hs) (List.getElem?_eq_getElem hj)
theorem neLD_cel {env : List Slot} {sto : List Co} {xs : List D} (h : getCo sto n = some (.L xs)) : neLD (.cel n) (.lst []) ⟨env, sto⟩ = .ok (.bl (!xs.isEmpty)) ⟨env, sto⟩ := by
  show (match emL ⟨env, sto⟩ (.cel n) (.lst []) with | some b => R.ok (D.bl (!b)) ⟨env, sto⟩ | none => neD (.cel n) (.lst []) ⟨env, sto⟩) = _
  have e : emL ⟨env, sto⟩ (.cel n) (.lst []) = some xs.isEmpty := by
    unfold emL
    rw [q_ct_cel, h]
    rfl
  rw [e]
theorem len_cel {env : List Slot} {sto : List Co} {xs : List D} (h : getCo sto n = some (.L xs)) : lenGO [.cel n] ⟨env, sto⟩ = .ok (.int xs.length) ⟨env, sto⟩ := by
  show (match content ⟨env, sto⟩ (.cel n) with | some (.M kvs) => R.ok (D.int kvs.length) ⟨env, sto⟩ | _ => lenO [.cel n] ⟨env, sto⟩) = _
  rw [q_ct_cel, h]
  show (match seqOf ⟨env, sto⟩ (.cel n) with | some xs => R.ok (D.int xs.length) ⟨env, sto⟩ | none => .bad) = _
  rw [q_so_cel, h]
  rfl
theorem slice_cel {env : List Slot} {sto : List Co} {xs : List D} {lo hi : Option Int} (h : getCo sto n = some (.L xs)) : sliceD (.cel n) lo hi ⟨env, sto⟩ = .ok (.lst (cutN xs lo hi)) ⟨env, sto⟩ := by
  show (match seqOf ⟨env, sto⟩ (.cel n) with | some xs => R.ok (D.lst (cutN xs lo hi)) ⟨env, sto⟩ | none => .bad) = _
  rw [q_so_cel, h]
  rfl
@[simp] theorem q_ltSrc : ltI f s = (f s).bind fun d s => match d with
  | .tup xs => .ok (fixN xs) s
  | .cel n => (match getCo s.sto n with
    | some (.L _) => .ok (celN n) s
    | _ => .bad)
  | .lst xs => .ok (fixN xs) s
  | .scr xs => .ok (fixN (xs.map D.int)) s
  | _ => .bad := by
  show (if isTp f s then tupI f s else seqI f s) = _
  have e1 : tupI f s = (f s).bind fun d s => match d with
    | .tup xs => .ok (fixN xs) s
    | _ => .bad := rfl
  have e2 := q_seqI (f := f) (s := s)
  rw [e1, e2]
  unfold isTp
  cases f s with
  | ok d s' => cases d <;> rfl
  | exc c d s' => rfl
  | bad => rfl
@[simp] theorem q_frzcel : frzE (fun s => .ok (.L []) s) s = .ok (.lst []) s := by rfl
end
theorem cutN_none {α : Type} {xs : List α} {k : Nat} : cutN xs none (some (k : Int)) = xs.take k := by
  unfold cutN
  rw [HT.sIx_none, HT.sIx_nat]
  simp
theorem cutN_some {α : Type} {xs : List α} {k : Nat} : cutN xs (some (k : Int)) none = xs.drop k := by
  unfold cutN
  rw [HT.sIx_none, HT.sIx_nat]
  by_cases h : k ≤ xs.length
  · rw [Nat.min_eq_left h]
    rw [List.take_of_length_le (by rw [List.length_drop]; omega)]
  · rw [Nat.min_eq_right (by omega), List.drop_of_length_le (Nat.le_refl _), List.drop_of_length_le (by omega)]
    simp
end G
namespace G
open PySem PySem.Spec PyProof.Rows L2
section
variable {f g h : Ex} {fs ks : Ax} {s : S} {i n m : Nat} {d e k y : D}
@[simp] theorem q_ct_own : content s (.own i) = match s.env[i]? with
  | some (.own c) => some c
  | some (.val (.lst xs)) => some (.L xs)
  | some (.val (.dct kvs)) => some (.M kvs)
  | _ => none := by rfl
@[simp] theorem q_putCo_own {c : Co} : putCo s c (.own i) = match s.env[i]? with
    | some (.own _) => some { s with env := s.env.set i (.own c) }
    | _ => none := by rfl
theorem store_own {env : List Slot} {sto : List Co} {kvs : List (D × D)} (he : env[i]? = some (.own (.M kvs))) (hk : dctOk kvs k = true) (hl : (putD k y kvs).length ≤ 16777216) : storeD (.own i) k y ⟨env, sto⟩ = .ok .nx ⟨env.set i (.own (.M (putD k y kvs))), sto⟩ := by
  unfold storeD
  rw [q_ct_own]
  simp only [he]
  rw [if_pos (by rw [hk, Bool.true_and, Nat.ble_eq, line_eq']; exact hl)]
  unfold putR
  rw [q_putCo_own]
  simp only [he]
@[simp] theorem q_valsC : valsC f s = (f s).bind fun d s => match content s d with
  | some (.M kvs) => .ok (kvs.map (·.2)) s
  | _ => .bad := by rfl
@[simp] theorem q_listCF {c : Cx'} : listCF c s = (c s).bind fun ds s => .ok (.L ds) s := by rfl
end
/-- days and rules -/
abbrev Hist := List (Nat × List Rule)
def eH (x : Nat × List Rule) : D := .tup [.int x.1, .lst (x.2.map eR)]
structure okH (h : Hist) : Prop where
  asc : h.Pairwise fun x y => x.1 < y.1
  ok : ∀ x ∈ h, x.1 ≤ 1000 ∧ okT x.2 ∧ x.2.length ≤ 5
section
variable {f g h : Ex} {fs ks : Ax} {s : S} {i n m : Nat} {d e k y : D}
@[simp] theorem q_matchS {fc : D → Sx} : matchS f fc s = (f s).bind fun d s => fc d s := by rfl
@[simp] theorem q_caseS {fp : Mx} {body : Sx} {rest : D → Sx} : caseS fp body rest d s = match fp d s with
  | .ok none s1 => rest d s1
  | .ok (some bs) s1 => (match bindB bs s1 with
    | some s2 => body s2
    | none => .bad)
  | _ => .bad := by rfl
@[simp] theorem q_seqM_tup {p : Mxs} {xs : List D} : seqM n p (.tup xs) s = if xs.length = n then p xs s else .ok none s := by rfl
@[simp] theorem q_seqM_str {p : Mxs} {xs : List Nat} : seqM n p (.str xs) s = .ok none s := by rfl
@[simp] theorem q_seqM_non {p : Mxs} : seqM n p .non s = .ok none s := by rfl
@[simp] theorem q_seqM_int {p : Mxs} {j : Int} : seqM n p (.int j) s = .ok none s := by rfl
@[simp] theorem q_nilM {xs : List D} : nilM xs s = .ok (some []) s := by rfl
@[simp] theorem q_consM {p : Mx} {q : Mxs} {r : List D} : consM p q (d :: r) s = (p d s).bind fun o s => match o with
    | none => .ok none s
    | some bs => (q r s).bind fun o2 s => match o2 with
      | none => .ok none s
      | some more => .ok (some (bs ++ more)) s := by rfl
@[simp] theorem q_valM_str {x z : List Nat} : valM (.str z) (.str x) s = .ok (if x = z then some [] else none) s := by
  show (match some (decide (x = z)) with | some true => R.ok (some []) s | some false => .ok none s | none => .bad) = _
  by_cases h : x = z <;> simp [h]
@[simp] theorem q_capM : capM i d s = .ok (some [(i, d)]) s := by rfl
@[simp] theorem q_wildM : wildM d s = .ok (some []) s := by rfl
@[simp] theorem q_noneM_non : noneM .non s = .ok (some []) s := by rfl
@[simp] theorem q_noneM_tup {xs : List D} : noneM (.tup xs) s = .ok none s := by rfl
@[simp] theorem q_bindB_nil : bindB [] s = some s := by rfl
@[simp] theorem q_bindB_cons {r : List (Nat × D)} : bindB ((i, d) :: r) s = if i < s.env.length then bindB r (putV i (.val d) s) else none := by rfl
@[simp] theorem q_fldE : fldE i f s = (f s).bind fun d s => match insOf s d with
  | some (_, fs) => (match lookN i fs with
    | some e => .ok e s
    | none => .bad)
  | none => .bad := by rfl
@[simp] theorem q_insOf {env : List Slot} {sto : List Co} : insOf ⟨env, sto⟩ (.cel n) = match getCo sto n with
    | some (.I c fs) => some (c, fs)
    | _ => none := by rfl
@[simp] theorem q_methE {c : Nat} {F : Fn} {dds : List D} : methE c F dds f fs s = (f s).bind fun d s => match insOf s d with
  | some (c', _) => if c' = c then (fs s).bind fun ds s => callF F (d :: (ds ++ dds)) s else .bad
  | none => .bad := by rfl
@[simp] theorem q_propE {c : Nat} {F : Fn} {dds : List D} : propE c F dds f s = methE c F dds f nilA s := by rfl
@[simp] theorem q_fldS {fv fo : Ex} : fldS i fv fo s = (fv s).bind fun y s => (fo s).bind fun d s => match d, insOf s d with
  | .cel n, some (c, fs) => if fs.length < 1000 then .ok .nx { s with sto := s.sto.set n (.I c (putN i y fs)) } else .bad
  | _, _ => .bad := by rfl
@[simp] theorem q_look0 {d : D} {r : List (Nat × D)} : lookN i ((m, d) :: r) = if m = i then some d else lookN i r := by rfl
@[simp] theorem q_look_nil : lookN i [] = none := by rfl
@[simp] theorem q_putN_nil {d : D} : putN i d [] = [(i, d)] := by rfl
@[simp] theorem q_putN {d e : D} {r : List (Nat × D)} : putN i d ((m, e) :: r) = if m = i then (m, d) :: r else (m, e) :: putN i d r := by rfl
@[simp] theorem q_alt {p : S → Bool} : altE p f g s = if p s then f s else g s := by rfl
theorem in_dct {kvs : List (D × D)} (hk : dctOk kvs k = true) : inD k (.dct kvs) s = .ok (.bl (getD k kvs).isSome) s := by
  unfold inD inB
  simp only [q_ct_dct, hk, if_true]
  rfl
theorem ix_dct {kvs : List (D × D)} {v : D} (hk : dctOk kvs k = true) (hv : getD k kvs = some v) : ixDct kvs k s = .ok v s := by
  unfold ixDct
  rw [if_pos hk, hv]
theorem settle_eP {p : Pl} : settle (eP p) s = .ok (eP p) s := by rfl
theorem settle_eS {b : Bool} : settle (eS b) s = .ok (eS b) s := by rfl
theorem settle_eR {r : Rule} : settle (eR r) s = .ok (eR r) s := by rfl
theorem settle_eA {b : Bool} {a : Ans} : settle (eA b a) s = .ok (eA b a) s := by cases a <;> rfl
end
/-- a dict comprehension behind its source -/
def dcR (nx : Nx) (vs : List Nat) (tg : Gx) (test : Tx) (fk fv : Ex) (s : S) : R Co := match dcLoop nx vs tg test fk fv fuel 0 [] s with
  | .ok acc s => .ok (.M acc) s
  | _ => .bad
@[simp] theorem q_dcF {src : Ix} {vs : List Nat} {tg : Gx} {test : Tx} {fk fv : Ex} {s : S} : dcF src vs tg test fk fv s = (src s).bind fun nx s => dcR nx vs tg test fk fv s := by rfl
theorem wp_dcR {nx : Nx} {vs : List Nat} {tg : Gx} {test : Tx} {fk fv : Ex} {s : S} {Q : Co → S → Prop} (n : Nat) (P : Nat → List (D × D) → S → Prop) (hn : n < fuel) (h0 : P 0 [] s)
    (hgo : ∀ i acc s, i < n → P i acc s → ∃ d, nx i s = some (some d) ∧ vs.all (notOwn s) = true ∧ wp (fun _ s1 => wp (fun b s2 => if b then wp (fun k s3 => wp (fun y s4 => dctOk acc k = true ∧ (putD k y acc).length ≤ 16777216 ∧ holdP (P (i + 1) (putD k y acc)) (restS vs s s4)) (fv s3)) (fk s2) else holdP (P (i + 1) acc) (restS vs s s2)) (test s1)) (tg d (wipeS vs s)))
    (hend : ∀ acc s, P n acc s → nx n s = some none ∧ Q (.M acc) s) : wp Q (dcR nx vs tg test fk fv s) := by
  have go : ∀ (k i : Nat) (acc : List (D × D)) (s : S), i + k = fuel → i ≤ n → P i acc s → wp (P n) (dcLoop nx vs tg test fk fv k i acc s) := by
    intro k
    induction k with
    | zero => intro i acc s e hi _; omega
    | succ k ih =>
      intro i acc s e hi hp
      unfold dcLoop
      by_cases h : i = n
      · subst h
        rw [(hend acc s hp).1]
        exact wp_ret hp
      · obtain ⟨d, h1, hv, h2⟩ := hgo i acc s (by omega) hp
        rw [h1]
        simp only [hv, if_true]
        obtain ⟨_, s1, e1, h3⟩ := wp_iff.mp h2
        simp only [e1]
        obtain ⟨b, s2, e2, h4⟩ := wp_iff.mp h3
        simp only [e2]
        cases b with
        | true =>
          obtain ⟨x, s3, e3, h5⟩ := wp_iff.mp h4
          simp only [e3]
          obtain ⟨y, s4, e4, h6, h7, h8⟩ := wp_iff.mp h5
          simp only [e4]
          rw [if_pos (by rw [h6, Bool.true_and, Nat.ble_eq, line_eq']; exact h7)]
          exact ih (i + 1) _ _ (by omega) (by omega) h8
        | false => exact ih (i + 1) _ _ (by omega) (by omega) h4
  unfold dcR
  obtain ⟨acc, s', e, h⟩ := wp_iff.mp (go fuel 0 [] s (by omega) (Nat.zero_le _) h0)
  rw [e]
  exact wp_ret (hend acc s' h).2
/-- a table in the store -/
def TabAt (cT : Nat) (fL : Nat) (sto : List Co) (n : Nat) (rs : List Rule) : Prop := getCo sto n = some (.I cT [(fL, .dct (lines rs))])
def prefixes (p : Pl) : List Pl := (List.range (p.length + 1)).map fun n => p.take n
theorem rev_get {α : Type} {xs : List α} {i : Nat} (h : i < xs.length) : xs[xs.length - 1 - i]? = xs.reverse[i]? := by
  rw [List.getElem?_reverse h]
/-- a for over what is walked from behind: as over the list turned round -/
theorem wp_for_rev {xs : List D} {tg : Gx} {body : Sx} {Q : Fl → S → Prop} {s : S} (P : Nat → S → Prop) (hn : xs.length < fuel) (h0 : P 0 s)
    (hgo : ∀ i s (h : i < xs.reverse.length), P i s → wp (fun _ s1 => wp (fun fl s2 => match fl with | .nx => holdP (P (i + 1)) s2 | .ct => holdP (P (i + 1)) s2 | .bk => Q .nx s2 | .rt r => Q (.rt r) s2) (body s1)) (tg xs.reverse[i] s))
    (hend : ∀ s, P xs.length s → Q .nx s) : wp Q (forLoop (revN xs) tg body fuel 0 s) :=
  wp_forLoop xs.length P hn h0 (fun i s hi hp => ⟨xs.reverse[i]'(by rw [List.length_reverse]; exact hi), by
    unfold revN
    rw [if_pos hi, rev_get hi, List.getElem?_eq_getElem], hgo i s (by rw [List.length_reverse]; exact hi) hp⟩) fun s hp => ⟨by simp [revN], hend s hp⟩
@[simp] theorem q_revI {f : Ex} {s : S} : revI f s = (f s).bind fun d s => match d with
  | .tup xs => .ok (revN xs) s
  | .lst xs => .ok (revN xs) s
  | _ => .bad := by rfl
section
variable {f g h : Ex} {fs ks : Ax} {s : S} {i n m : Nat} {d e k y : D}
@[simp] theorem q_ty_cel : tyOf s (.cel n) = (unK (getCo s.sto n)).bind coTy := by rfl
@[simp] theorem q_coTyI {c : Nat} {fs : List (Nat × D)} : coTy (.I c fs) = some (.ins c) := by rfl
@[simp] theorem q_starA : starA f fs s = (f s).bind fun d s => match seqOf s d with
  | some xs => (fs s).bind fun ds s => .ok (xs ++ ds) s
  | none => .bad := by rfl
@[simp] theorem q_make' {c : Nat} {F : Fn} {dds : List D} : makeE c F dds nilA s = newF c F dds s := by rfl
@[simp] theorem q_zipA {a : Ax} : zipA a s = (a s).bind fun ds s => match ds with
  | [d, e] => (match coList (content s d), coList (content s e) with
    | some xs, some ys => .ok (pairUp xs ys) s
    | _, _ => .bad)
  | _ => .bad := by rfl
@[simp] theorem q_revF : revF f s = (f s).bind fun d s => match coList (content s d) with
  | some xs => .ok (.L xs.reverse) s
  | none => .bad := by rfl
end
/-- a call that ends in None makes an object -/
theorem newF_ok {c : Nat} {F : Fn} {ds : List D} {env : List Slot} {sto sto' : List Co} (h : callF F (.cel sto.length :: ds) ⟨env, sto ++ [.I c []]⟩ = .ok .non ⟨env, sto'⟩) : newF c F ds ⟨env, sto⟩ = .ok (.cel sto.length) ⟨env, sto'⟩ := by
  unfold newF
  show (match callF F (.cel sto.length :: ds) ⟨env, sto ++ [.I c []]⟩ with | .ok .non s' => R.ok (D.cel sto.length) s' | .exc c d s' => .exc c d s' | _ => .bad) = _
  rw [h]
/-- a server's rows -/
structure SRow where
  c : Nat
  day : Nat
  rs : List Rule
def rDays (rows : List SRow) : List D := rows.map fun r => .int (r.day : Nat)
def rTabs (rows : List SRow) : List D := rows.map fun r => .cel r.c
structure okRows (rows : List SRow) : Prop where
  asc : rows.Pairwise fun x y => x.day < y.day
  ok : ∀ r ∈ rows, r.day ≤ 1000 ∧ okT r.rs
theorem last_at {α : Type} {xs : List α} {x : α} : atI (xs ++ [x]) (-1) = some x := by
  unfold atI ixN
  rw [if_neg (by omega), if_pos (by rw [List.length_append, List.length_singleton]; omega)]
  show (xs ++ [x])[((-1 : Int) + ((xs ++ [x]).length : Int)).toNat]? = some x
  have : ((-1 : Int) + ((xs ++ [x]).length : Int)).toNat = xs.length := by rw [List.length_append, List.length_singleton]; omega
  rw [this]
  simp
theorem ix_ownL {env : List Slot} {sto : List Co} {i : Nat} {xs : List D} {k : D} (h : env[i]? = some (.own (.L xs))) : ixD (.own i) k ⟨env, sto⟩ = ixAt (some xs) k ⟨env, sto⟩ := by
  show ixSeq (.own i) k ⟨env, sto⟩ = _
  unfold ixSeq
  have e : content ⟨env, sto⟩ (.own i) = some (.L xs) := by rw [q_ct_own]; simp only [h]
  have e2 : seqOf ⟨env, sto⟩ (.own i) = some xs := by
    show coList (content ⟨env, sto⟩ (.own i)) = _
    rw [e]; rfl
  rw [e, e2]
@[simp] theorem at_head {α : Type} {x : α} {xs : List α} : atI (x :: xs) 0 = some x := by
  unfold atI ixN
  simp
theorem neLD_own {env : List Slot} {sto : List Co} {i : Nat} : neLD (.own i) (.lst []) ⟨env, sto⟩ = match env[i]? with
  | some (.own (.L xs)) => .ok (.bl (!xs.isEmpty)) ⟨env, sto⟩
  | _ => neLD (.own i) (.lst []) ⟨env, sto⟩ := by
  split
  · rename_i xs h
    show (match emL ⟨env, sto⟩ (.own i) (.lst []) with | some b => R.ok (D.bl (!b)) ⟨env, sto⟩ | none => neD (.own i) (.lst []) ⟨env, sto⟩) = _
    have e : emL ⟨env, sto⟩ (.own i) (.lst []) = some xs.isEmpty := by
      unfold emL
      rw [q_ct_own]
      simp only [h]
      rfl
    rw [e]
  · rfl
/-- a comprehension over pairs -/
theorem lcR_map2 {α : Type} {ys : List α} {p q : α → D} {i j : Nat} {test : Tx} {elt : Ex} {s : S} (t : α → Bool) (e : α → D) (hij : i ≠ j) (hn : ys.length < fuel) (hi : notOwn s i = true) (hj : notOwn s j = true)
    (ht : ∀ y ∈ ys, test { s with env := (s.env.set i (.val (p y))).set j (.val (q y)) } = .ok (t y) { s with env := (s.env.set i (.val (p y))).set j (.val (q y)) })
    (he : ∀ y ∈ ys, t y = true → elt { s with env := (s.env.set i (.val (p y))).set j (.val (q y)) } = .ok (e y) { s with env := (s.env.set i (.val (p y))).set j (.val (q y)) }) : lcR (fixN (ys.map fun y => .tup [p y, q y])) [i, j] (tupG (consG (nameG i) (consG (nameG j) nilG))) test elt s = .ok (.L ((ys.filter t).map e)) s := by
  have hi0 := hi
  have hj0 := hj
  unfold notOwn at hi hj
  cases q1 : s.env[i]? with
  | none => rw [q1] at hi; cases hi
  | some si =>
    cases q2 : s.env[j]? with
    | none => rw [q2] at hj; cases hj
    | some sj =>
      have li : i < s.env.length := (List.getElem?_eq_some_iff.mp q1).1
      have lj : j < s.env.length := (List.getElem?_eq_some_iff.mp q2).1
      refine lcR_map (fun y => { s with env := (s.env.set i (.val (p y))).set j (.val (q y)) }) t e hn (by simp [hi0, hj0]) fun y hy => ⟨?_, ht y hy, he y hy, ?_⟩
      · simp [nameG, wipeS, wipeE, li, lj, putV]
        rw [List.set_comm _ _ hij.symm, List.set_set]
      · unfold restS restE restE restE
        simp only [q1, q2]
        show S.mk ((((s.env.set i (.val (p y))).set j (.val (q y))).set j sj).set i si) s.sto = s
        rw [List.set_set, List.set_comm _ _ hij, List.set_set, ← (List.getElem?_eq_some_iff.mp q1).2, List.set_comm _ _ hij.symm, List.set_getElem_self, ← (List.getElem?_eq_some_iff.mp q2).2, List.set_getElem_self]
theorem cutN_1 {α : Type} {xs : List α} {k : Nat} : cutN xs (some 1) (some (k : Int)) = (xs.take k).drop 1 := by
  have e : cutN xs (some ((1 : Nat) : Int)) (some (k : Int)) = (xs.take k).drop 1 := by
    unfold cutN
    rw [HT.sIx_nat, HT.sIx_nat]
    rw [List.drop_take]
    by_cases h : 1 ≤ xs.length
    · rw [Nat.min_eq_left h]
      by_cases h2 : k ≤ xs.length
      · rw [Nat.min_eq_left h2]
      · rw [Nat.min_eq_right (by omega), List.take_of_length_le (by rw [List.length_drop]; omega), List.take_of_length_le (by rw [List.length_drop]; omega)]
    · have : xs = [] := List.length_eq_zero_iff.mp (by omega)
      rw [this]
      simp
  exact e
@[simp] theorem q_set_own {s : S} {i : Nat} : settle (.own i) s = match s.env[i]? with
    | some (.own c) => (match coD c with
      | some d' => .ok d' { s with env := s.env.set i (.val d') }
      | none => .bad)
    | some (.val d') => .ok d' s
    | _ => .bad := by rfl
theorem neLD_own' {env : List Slot} {sto : List Co} {i : Nat} {xs : List D} (h : env[i]? = some (.own (.L xs))) : neLD (.own i) (.lst []) ⟨env, sto⟩ = .ok (.bl (!xs.isEmpty)) ⟨env, sto⟩ := by
  rw [neLD_own, h]
end G

set_option Elab.async false
set_option linter.all false
set_option maxRecDepth 100000
set_option maxHeartbeats 4000000
namespace K02
open PySem PySem.Spec PyProof.Rows L2 G
theorem take_eP {a : Pl} {k : Nat} : cutN (a.map D.str) none (some (k : Int)) = (a.take k).map D.str := by rw [cutN_none, List.map_take]
theorem e_beginnings {a : Pl} {s : S} (hl : a.length ≤ 1000000) : callF f_beginnings [eP a] s = .ok (.lst ((prefixes a).map eP)) s := by
  refine callF_pure rfl ?_
  have sm : small62 ((a.length : Int) + 1) = true := small_of (by omega) (by omega)
  simp [b_beginnings, eP, sm]
  refine wp_mono (wp_lcR (a.length + 1) (fun i acc s' => s' = ⟨[.val (eP a), .emp], s.sto⟩ ∧ acc.reverse = (((List.range i).map fun n => a.take n).map eP)) (Q := fun c s' => c = .L ((prefixes a).map eP) ∧ s' = ⟨[.val (eP a), .emp], s.sto⟩) (by rw [fuel_eq']; omega) ⟨rfl, rfl⟩ ?_ ?_) ?_
  · rintro i acc s' hi ⟨rfl, e⟩
    refine ⟨.int (0 + i), by simp [rngN, eP]; omega, rfl, ?_⟩
    simp [wipeS, wipeE, eP, cutN_none]
    refine ⟨rfl, ?_⟩
    rw [List.reverse_cons, e, List.range_succ]
    simp [eP]
  · rintro acc s' ⟨rfl, e⟩
    refine ⟨?_, by rw [e]; rfl, rfl⟩
    unfold rngN
    rw [if_neg]
    simp
  · rintro c s' ⟨rfl, rfl⟩
    simp
theorem pyEqs_strs : ∀ a p : Pl, pyEqs (a.map D.str) (p.map D.str) = decide (a = p)
  | [], [] => rfl
  | [], _ :: _ => by simp [pyEqs]
  | _ :: _, [] => by simp [pyEqs]
  | x :: a, y :: p => by
    simp only [List.map_cons, pyEqs, pyEqs_strs a p, pyEq]
    rw [Bool.eq_iff_iff]
    simp
theorem dat_eP {a : Pl} (h : ∀ w ∈ a, codeOk w = true) (n : Nat) : dat (n + 2) (eP a) = true := by
  show (a.map D.str).all (dat (n + 1)) = true
  rw [List.all_map]
  exact List.all_eq_true.mpr fun w hw => h w hw
theorem eqB_eP {a p : Pl} {s : S} (ha : ∀ w ∈ a, codeOk w = true) (hp : ∀ w ∈ p, codeOk w = true) : eqB s (eP a) (eP p) = some (decide (a = p)) := by
  have h1 : dat 60 (eP a) = true := dat_eP ha 58
  have h2 : dat 60 (eP p) = true := dat_eP hp 58
  show (if dat 60 (view s (eP a)) && dat 60 (view s (eP p)) then some (pyEq (view s (eP a)) (view s (eP p))) else none) = _
  rw [dat_view h1, dat_view h2, h1, h2]
  show some (pyEqs (a.map D.str) (p.map D.str)) = _
  rw [pyEqs_strs]
theorem eq_eP {a p : Pl} {s : S} (ha : ∀ w ∈ a, codeOk w = true) (hp : ∀ w ∈ p, codeOk w = true) : eqD (eP a) (eP p) s = .ok (.bl (decide (a = p))) s := by
  unfold eqD
  rw [eqB_eP ha hp]
  rfl
theorem ne_eP {a p : Pl} {s : S} (ha : ∀ w ∈ a, codeOk w = true) (hp : ∀ w ∈ p, codeOk w = true) : neD (eP a) (eP p) s = .ok (.bl (!decide (a = p))) s := by
  unfold neD
  rw [eqB_eP ha hp]
  rfl
theorem eqB_strs {a p : Pl} {s : S} (ha : ∀ w ∈ a, codeOk w = true) (hp : ∀ w ∈ p, codeOk w = true) : eqB s (.lst (a.map D.str)) (.lst (p.map D.str)) = some (decide (a = p)) := by
  have h0 : ∀ q : Pl, (∀ w ∈ q, codeOk w = true) → dat 60 (.lst (q.map D.str)) = true := fun q hq => by
    show (q.map D.str).all (dat 59) = true
    rw [List.all_map]
    exact List.all_eq_true.mpr fun w hw => hq w hw
  have h1 := h0 a ha
  have h2 := h0 p hp
  show (if dat 60 (view s (.lst (a.map D.str))) && dat 60 (view s (.lst (p.map D.str))) then some (pyEq (view s (.lst (a.map D.str))) (view s (.lst (p.map D.str)))) else none) = _
  rw [dat_view h1, dat_view h2, h1, h2]
  show some (pyEqs (a.map D.str) (p.map D.str)) = _
  rw [pyEqs_strs]
theorem eq_strs {a p : Pl} {s : S} (ha : ∀ w ∈ a, codeOk w = true) (hp : ∀ w ∈ p, codeOk w = true) : eqD (.lst (a.map D.str)) (.lst (p.map D.str)) s = .ok (.bl (decide (a = p))) s := by
  unfold eqD
  rw [eqB_strs ha hp]
  rfl
theorem ne_same {L : List Pl} {s : S} (h : ∀ p ∈ L, ∀ w ∈ p, codeOk w = true) : neD (.lst (L.map eP)) (.lst (L.map eP)) s = .ok (.bl false) s := by
  have hd : dat 60 (.lst (L.map eP)) = true := by
    show (L.map eP).all (dat 59) = true
    rw [List.all_map]
    exact List.all_eq_true.mpr fun p hp => dat_eP (h p hp) 57
  have hs : ∀ M : List Pl, pyEqs (M.map eP) (M.map eP) = true := fun M => by
    induction M with
    | nil => rfl
    | cons p M ih =>
      simp only [List.map_cons, pyEqs, ih, Bool.and_true]
      show pyEqs (p.map D.str) (p.map D.str) = true
      rw [pyEqs_strs]
      exact decide_eq_true rfl
  unfold neD
  have e : eqB s (.lst (L.map eP)) (.lst (L.map eP)) = some true := by
    show (if dat 60 (view s (.lst (L.map eP))) && dat 60 (view s (.lst (L.map eP))) then some (pyEq (view s (.lst (L.map eP))) (view s (.lst (L.map eP)))) else none) = _
    rw [dat_view hd, hd]
    show some (pyEqs (L.map eP) (L.map eP)) = _
    rw [hs]
  rw [e]
  rfl
theorem len_eP {a : Pl} {s : S} : lenGO [eP a] s = .ok (.int a.length) s := by
  show R.ok (D.int (a.map D.str).length) s = _
  rw [List.length_map]
theorem cut_eP {a : Pl} {k : Nat} {s : S} : sliceD (eP a) none (some (k : Int)) s = .ok (eP (a.take k)) s := by
  show R.ok (D.tup (cutN (a.map D.str) none (some (k : Int)))) _ = _
  rw [take_eP]
  rfl
theorem drop_eP {a : Pl} {k : Nat} {s : S} : sliceD (eP a) (some (k : Int)) none s = .ok (eP (a.drop k)) s := by
  show R.ok (D.tup (cutN (a.map D.str) (some (k : Int)) none)) _ = _
  rw [cutN_some, ← List.map_drop]
  rfl
theorem e_begins {a p : Pl} {s : S} (ha : ∀ w ∈ a, codeOk w = true) (hp : ∀ w ∈ p, codeOk w = true) : callF f_begins [eP a, eP p] s = .ok (.bl (decide (a.take p.length = p))) s := by
  refine callF_pure rfl ?_
  simp [b_begins, len_eP, cut_eP, settle_eP, eq_eP (fun w hw => ha w (List.mem_of_mem_take hw)) hp]
theorem e_rest {a q : Pl} {s : S} : callF f_rest_of [eP a, eP q] s = .ok (eP (a.drop q.length)) s := by
  refine callF_pure rfl ?_
  simp [b_rest_of, len_eP, drop_eP, settle_eP]
def keyP (a : Pl) : D := .tup [.int a.length, eP a]
theorem e_key {a : Pl} {s : S} : callF f_address_key [eP a] s = .ok (keyP a) s := by
  refine callF_pure rfl ?_
  simp [b_address_key, len_eP, settle_eP, line, keyP]
/-! ### the order of addresses -/
theorem ltN_self : ∀ x : List Nat, G.ltN x x = false
  | [] => rfl
  | a :: x => by simp [G.ltN, ltN_self x]
theorem ltN_tri : ∀ x y : List Nat, x ≠ y → G.ltN x y = false → G.ltN y x = true
  | [], [], h, _ => absurd rfl h
  | [], _ :: _, _, h => by simp [G.ltN] at h
  | _ :: _, [], _, _ => rfl
  | a :: x, b :: y, h, h2 => by
    simp only [G.ltN, Bool.or_eq_false_iff, decide_eq_false_iff_not, Bool.and_eq_false_imp, decide_eq_true_eq] at h2
    simp only [G.ltN, Bool.or_eq_true, decide_eq_true_eq, Bool.and_eq_true]
    by_cases e : a = b
    · subst e
      refine .inr ⟨rfl, ltN_tri x y (fun z => h (by rw [z])) (h2.2 rfl)⟩
    · left; omega
/-- as many words: the first that differ -/
def lexW : Pl → Pl → Bool
  | x :: a, y :: b => G.ltN x y || (!G.ltN y x && lexW a b)
  | _, _ => false
theorem lexW_same {x : Wrd} {a b : Pl} : lexW (x :: a) (x :: b) = lexW a b := by simp [lexW, ltN_self]
theorem lexW_diff {x y : Wrd} {a b : Pl} (h : x ≠ y) : lexW (x :: a) (y :: b) = G.ltN x y := by
  simp only [lexW]
  cases e : G.ltN x y with
  | true => rfl
  | false => rw [ltN_tri x y h e]; rfl
def ltP (a b : Pl) : Bool := if a.length = b.length then lexW a b else decide (a.length < b.length)
theorem keyToks_strs : ∀ a : Pl, PySem.W.keyToksAll (pys (a.map D.str)) = (a.flatMap fun w => [.inl 1, .inr w]) ++ [.inl 0]
  | [] => rfl
  | w :: a => by
    have ih := keyToks_strs a
    have e : PySem.W.keyToks (.str (toStr w)) = [.inr w] := by
      show [Sum.inr (toStr w).cps.toList] = _
      simp [toStr]
    simp only [List.map_cons, pys, py, PySem.W.keyToksAll, List.flatMap_cons]
    rw [ih, e]
    rfl
theorem toks_lt : ∀ a b : Pl, a.length = b.length → PyProof.Rows.lexLt itemOrd ((a.flatMap fun w => [.inl 1, .inr w]) ++ [.inl 0, .inl 0]) ((b.flatMap fun w => [.inl 1, .inr w]) ++ [.inl 0, .inl 0]) = lexW a b
  | [], [], _ => by rfl
  | [], _ :: _, h => by simp at h
  | _ :: _, [], h => by simp at h
  | x :: a, y :: b, h => by
    have ih := toks_lt a b (by simpa using h)
    have e : ∀ (u v : List Nat) (r t : List (Int ⊕ List Nat)), PyProof.Rows.lexLt itemOrd (.inl 1 :: .inr u :: r) (.inl 1 :: .inr v :: t) = (decide (u < v) || (!decide (v < u) && PyProof.Rows.lexLt itemOrd r t)) := fun u v r t => by
      have : PyProof.Rows.lexLt itemOrd (.inl 1 :: .inr u :: r) (.inl 1 :: .inr v :: t) = (decide ((1 : Int) < 1) || (!decide ((1 : Int) < 1) && (decide (u < v) || (!decide (v < u) && PyProof.Rows.lexLt itemOrd r t)))) := by rfl
      rw [this]
      simp
    simp only [List.flatMap_cons, List.cons_append, List.nil_append]
    rw [e, ih, ltN_eq, ltN_eq]
    rfl
theorem key_lt {a b : Pl} : PySem.W.dataLt (py (keyP a)) (py (keyP b)) = ltP a b := by
  have ek : ∀ a : Pl, PySem.W.keyToks (py (keyP a)) = .inl 1 :: .inl (a.length : Int) :: .inl 1 :: ((a.flatMap fun w => [.inl 1, .inr w]) ++ [.inl 0, .inl 0]) := fun a => by
    have h := keyToks_strs a
    show Sum.inl 1 :: Sum.inl (a.length : Int) :: Sum.inl 1 :: (PySem.W.keyToksAll (pys (a.map D.str)) ++ [.inl 0]) = _
    rw [h, List.append_assoc]
    rfl
  unfold PySem.W.dataLt
  rw [ek, ek]
  have e : ∀ (n m : Int) (r t : List (Int ⊕ List Nat)), PyProof.Rows.lexLt itemOrd (.inl 1 :: .inl n :: .inl 1 :: r) (.inl 1 :: .inl m :: .inl 1 :: t) = (decide (n < m) || (!decide (m < n) && PyProof.Rows.lexLt itemOrd r t)) := fun n m r t => by
    have : PyProof.Rows.lexLt itemOrd (.inl 1 :: .inl n :: .inl 1 :: r) (.inl 1 :: .inl m :: .inl 1 :: t) = (decide ((1 : Int) < 1) || (!decide ((1 : Int) < 1) && (decide (n < m) || (!decide (m < n) && (decide ((1 : Int) < 1) || (!decide ((1 : Int) < 1) && PyProof.Rows.lexLt itemOrd r t)))))) := by rfl
    rw [this]
    simp
  rw [e]
  unfold ltP
  by_cases h : a.length = b.length
  · rw [if_pos h, toks_lt a b h]
    have h1 : ¬ ((a.length : Int) < (b.length : Int)) := by omega
    have h2 : ¬ ((b.length : Int) < (a.length : Int)) := by omega
    simp [h1, h2]
  · rw [if_neg h]
    by_cases h1 : a.length < b.length
    · have h2 : (a.length : Int) < (b.length : Int) := by omega
      simp [h1, h2]
    · have h2 : ¬ (a.length : Int) < (b.length : Int) := by omega
      have h3 : (b.length : Int) < (a.length : Int) := by omega
      simp [h1, h2, h3]
theorem alike_strs : ∀ a b : Pl, alikeL (a.map D.str) (b.map D.str) = true
  | [], b => by cases b <;> rfl
  | _ :: _, [] => rfl
  | x :: a, y :: b => by simp only [List.map_cons, alikeL, alikeD, alike_strs a b, Bool.and_self]
theorem lt_key {a b : Pl} {s : S} (ha : ∀ w ∈ a, codeOk w = true) (hb : ∀ w ∈ b, codeOk w = true) : ltGD (keyP a) (keyP b) s = .ok (.bl (ltP a b)) s := by
  have hd : ∀ p : Pl, (∀ w ∈ p, codeOk w = true) → dat 50 (keyP p) = true := fun p hp => by
    show ([D.int p.length, eP p]).all (dat 49) = true
    have := dat_eP hp 47
    simp only [List.all_cons, List.all_nil, this, Bool.and_true]
    rfl
  have al : ∀ p q : Pl, alikeD (keyP p) (keyP q) = true := fun p q => by
    show (alikeD (.int (p.length : Int)) (.int (q.length : Int)) && (alikeD (eP p) (eP q) && alikeL [] [])) = true
    have : alikeD (eP p) (eP q) = true := alike_strs p q
    rw [this]
    rfl
  have ok : datsOk [keyP a, keyP b] = true := by
    unfold datsOk
    simp only [List.all_cons, List.all_nil, hd a ha, hd b hb, al, Bool.and_true, Bool.true_and]
    rfl
  have e : ltGB (keyP a) (keyP b) = some (ltP a b) := by
    show (if datsOk [keyP a, keyP b] then some (PySem.W.dataLt (py (keyP a)) (py (keyP b))) else none) = _
    rw [ok, key_lt]
    rfl
  unfold ltGD
  rw [e]
  rfl
theorem e_before {a b : Pl} {s : S} (hl : a.length ≤ 1000) : callF f__law_before [eP a, eP b] s = .ok (.bl (ltP a b)) s := by
  refine callF_pure rfl ?_
  unfold b__law_before
  refine wp_seq ?_
  unfold ltP
  by_cases h : a.length = b.length
  · rw [if_pos h]
    have h' : (a.length : Int) = (b.length : Int) := by omega
    simp [len_eP, h']
    refine cont_nx (wp_seq ?_)
    have ez : zipTI (nameV 0) (nameV 1) ⟨[.val (eP a), .val (eP b), .emp, .emp], s.sto⟩ = .ok (fixN (pairUp (a.map D.str) (b.map D.str))) ⟨[.val (eP a), .val (eP b), .emp, .emp], s.sto⟩ := by
      unfold zipTI
      simp [settle_eP]
      rfl
    simp only [q_forS, ez, q_bind_ok]
    have hpl : (pairUp (a.map D.str) (b.map D.str)).length = a.length := by simp [pairUp, h]
    refine wp_for_fix (fun i s' => ∃ x2 x3, s' = ⟨[.val (eP a), .val (eP b), x2, x3], s.sto⟩ ∧ lexW a b = lexW (a.drop i) (b.drop i)) (by rw [hpl, fuel_eq']; omega) ⟨_, _, rfl, rfl⟩ ?_ ?_
    · rintro i s' hi ⟨x2, x3, rfl, he⟩
      have ia : i < a.length := by rw [← hpl]; exact hi
      have ib : i < b.length := by omega
      have eg : (pairUp (a.map D.str) (b.map D.str))[i] = .tup [.str a[i], .str b[i]] := by simp [pairUp]
      rw [eg]
      rw [List.drop_eq_getElem_cons ia, List.drop_eq_getElem_cons ib] at he
      generalize a[i] = x at he
      generalize b[i] = y at he
      by_cases hxy : x = y
      · subst hxy
        rw [lexW_same] at he
        simp [b__law_before_l1]
        exact ⟨_, _, rfl, he⟩
      · rw [lexW_diff hxy] at he
        simp [b__law_before_l1, hxy]
        exact cont_rt ⟨by rw [he], rfl⟩
    · rintro s' ⟨x2, x3, rfl, he⟩
      refine cont_nx ?_
      rw [hpl] at he
      have : lexW (a.drop a.length) (b.drop a.length) = false := by rw [List.drop_length]; rfl
      rw [this] at he
      simp [he]
  · rw [if_neg h]
    have h' : ¬ (a.length : Int) = (b.length : Int) := by omega
    have hd : decide ((a.length : Int) < (b.length : Int)) = decide (a.length < b.length) := by rw [Bool.eq_iff_iff]; simp
    simp [len_eP, h']
    exact cont_rt ⟨rfl, rfl⟩
end K02

set_option Elab.async false
set_option linter.all false
set_option maxRecDepth 100000
set_option maxHeartbeats 4000000
namespace K02
open PySem PySem.Spec PyProof.Rows L2 G
def seqW : List Wrd := [[97], [97, 97], [97, 97, 97], [97, 97, 97, 97], [97, 97, 97, 97, 97], [97, 97, 97, 97, 97, 97], [97, 97, 97, 97, 97, 97, 97], [97, 97, 97, 97, 97, 97, 97, 97], [97, 97, 97, 97, 97, 97, 97, 97, 97], [97, 97, 97, 97, 97, 97, 97, 97, 97, 97], [97, 97, 97, 97, 97, 97, 97, 97, 97, 97, 97], [97, 97, 97, 97, 97, 97, 97, 97, 97, 97, 97, 97], [97, 97, 97, 97, 97, 97, 97, 97, 97, 97, 97, 98], [97, 97, 97, 97, 97, 97, 97, 97, 97, 97, 97, 99], [97, 97, 97, 97, 97, 97, 97, 97, 97, 97, 97, 100]]
def menuB : List Wrd := [[97], [97, 97], [97, 97, 97], [97, 97, 97, 97], [97, 97, 97, 97, 97], [97, 97, 97, 97, 97, 97], [97, 97, 97, 97, 97, 97, 97], [97, 97, 97, 97, 97, 97, 97, 97], [97, 97, 97, 97, 97, 97, 97, 97, 97], [97, 97, 97, 97, 97, 97, 97, 97, 97, 97], [97, 97, 97, 97, 97, 97, 97, 97, 97, 97, 97], [97, 97, 97, 97, 97, 97, 97, 97, 97, 97, 97, 97], [97, 97, 97, 97, 97, 97, 97, 97, 97, 97, 97, 98], [97, 97, 97, 97, 97, 97, 97, 97, 97, 97, 97, 99], [98]]
def freeW (ws : List Wrd) : Wrd := (seqW.find? fun w => !ws.contains w).getD []
theorem menuB_code : ∀ w ∈ menuB, codeOk w = true := by decide
theorem menuB_last : ([97, 97, 97, 97, 97, 97, 97, 97, 97, 97, 97, 100] : Wrd) ∉ menuB := by decide
def sW (j : Nat) : Wrd := seqW.getD j []
theorem find_at {α : Type} {p : α → Bool} {z : α} : ∀ {L : List α} {j : Nat}, j < L.length → (∀ i, i < j → p (L.getD i z) = false) → p (L.getD j z) = true → L.find? p = some (L.getD j z)
  | [], j, hj, _, _ => absurd hj (Nat.not_lt_zero j)
  | x :: L, 0, _, _, hp => by
    rw [List.find?_cons]
    have hp : p x = true := hp
    rw [hp]
    rfl
  | x :: L, j + 1, hj, h, hp => by
    have h0 : p x = false := h 0 (Nat.succ_pos j)
    rw [List.find?_cons, h0]
    exact find_at (L := L) (j := j) (by simpa using hj) (fun i hi => h (i + 1) (Nat.succ_lt_succ hi)) hp
theorem free_at {ws : List Wrd} {j : Nat} (hj : j < 15) (h : ∀ i, i < j → ws.contains (sW i) = true) (hc : ws.contains (sW j) = false) : freeW ws = sW j := by
  unfold freeW
  have := find_at (L := seqW) (z := []) (p := fun w => !ws.contains w) (j := j) hj (fun i hi => by
    show (!ws.contains (sW i)) = false
    rw [h i hi]; rfl) (by
    show (!ws.contains (sW j)) = true
    rw [hc]; rfl)
  rw [this]
  rfl
theorem dat_strs {ws : List Wrd} (h : ∀ w ∈ ws, codeOk w = true) : (ws.map D.str).all (dat 59) = true := by
  rw [List.all_map]
  exact List.all_eq_true.mpr fun w hw => h w hw
theorem any_strs (ws : List Wrd) (w : Wrd) : ((ws.map D.str).any fun z => pyEq z (.str w)) = ws.contains w := by
  induction ws with
  | nil => rfl
  | cons x ws ih =>
    rw [List.map_cons, List.any_cons, ih, List.contains_cons]
    show (decide (x = w) || ws.contains w) = _
    congr 1
    rw [Bool.eq_iff_iff, decide_eq_true_eq, beq_iff_eq]
    exact eq_comm
/-- words as they are handed in -/
def IsWs (d : D) (ws : List Wrd) : Prop := d = .lst (ws.map .str) ∨ d = .tup (ws.map .str)
theorem inB_ws {d : D} {ws : List Wrd} {w : Wrd} {s : S} (hd : IsWs d ws) (h : ∀ w ∈ ws, codeOk w = true) (hw : codeOk w = true) : inB s (.str w) d = some (ws.contains w) := by
  have h1 : dat 59 (.str w) = true := hw
  have hv : view s (.str w) = .str w := dat_view (n := 59) h1
  rcases hd with rfl | rfl
  · show (if dat 59 (view s (.str w)) && (ws.map D.str).all (dat 59) then some ((ws.map D.str).any fun z => pyEq z (view s (.str w))) else none) = _
    rw [hv, h1, dat_strs h, any_strs]
    rfl
  · show (if dat 59 (view s (.str w)) && (ws.map D.str).all (dat 59) then some ((ws.map D.str).any fun z => pyEq z (view s (.str w))) else none) = _
    rw [hv, h1, dat_strs h, any_strs]
    rfl
theorem in_ws {d : D} {ws : List Wrd} {w : Wrd} {s : S} (hd : IsWs d ws) (h : ∀ w ∈ ws, codeOk w = true) (hw : codeOk w = true) : inD (.str w) d s = .ok (.bl (ws.contains w)) s := by
  unfold inD
  rw [inB_ws hd h hw]
  rfl
theorem ni_ws {d : D} {ws : List Wrd} {w : Wrd} {s : S} (hd : IsWs d ws) (h : ∀ w ∈ ws, codeOk w = true) (hw : codeOk w = true) : niD (.str w) d s = .ok (.bl (!ws.contains w)) s := by
  unfold niD
  rw [inB_ws hd h hw]
  rfl
theorem sW_code : ∀ j, j < 15 → codeOk (sW j) = true := by decide
theorem e_next {s : S} : ∀ j (h : j < 14), callF f_next_word [.str (sW j)] s = .ok (.str (sW (j + 1))) s
  | 0, _ => by kernel_rfl
  | 1, _ => by kernel_rfl
  | 2, _ => by kernel_rfl
  | 3, _ => by kernel_rfl
  | 4, _ => by kernel_rfl
  | 5, _ => by kernel_rfl
  | 6, _ => by kernel_rfl
  | 7, _ => by kernel_rfl
  | 8, _ => by kernel_rfl
  | 9, _ => by kernel_rfl
  | 10, _ => by kernel_rfl
  | 11, _ => by kernel_rfl
  | 12, _ => by kernel_rfl
  | 13, _ => by kernel_rfl
  | n + 14, h => absurd h (by omega)
theorem settle_ws {d : D} {ws : List Wrd} (hd : IsWs d ws) (s : S) : settle d s = .ok d s := by
  rcases hd with rfl | rfl <;> rfl
theorem e_strange {d : D} {ws : List Wrd} {s : S} (hd : IsWs d ws) (h : ∀ w ∈ ws, codeOk w = true) (hl : ws.contains (sW 14) = false) : callF f_strange_word [d] s = .ok (.str (freeW ws)) s := by
  refine callF_pure rfl ?_
  unfold b_strange_word
  refine wp_seq ?_
  simp
  refine cont_nx (wp_seq ?_)
  simp
  refine wp_while 14 (fun k s' => ∃ (j : Nat), j < 15 ∧ k = 14 - j ∧ s' = ⟨[.val d, .val (.str (sW j))], s.sto⟩ ∧ ∀ i (hi : i < j), ws.contains (sW i) = true) (by rw [fuel_eq']; omega) ⟨0, by omega, rfl, rfl, fun i hi => absurd hi (Nat.not_lt_zero i)⟩ ?_
  rintro k s' ⟨j, hj, rfl, rfl, hall⟩
  simp [in_ws hd h (sW_code j hj), settle_ws hd]
  cases hc : ws.contains (sW j) with
  | true =>
    have hj14 : j < 14 := by
      rcases Nat.lt_or_eq_of_le (Nat.le_of_lt_succ hj) with z | rfl
      · exact z
      · rw [hl] at hc; cases hc
    have hm : sW j ∈ ws := by simpa using hc
    simp only [hm, if_true]
    refine ⟨by omega, ?_⟩
    simp [b_strange_word_l1, e_next j hj14]
    refine ⟨j + 1, by omega, by omega, rfl, fun i hi => ?_⟩
    rcases Nat.lt_or_eq_of_le (Nat.le_of_lt_succ hi) with z | rfl
    · exact hall i z
    · exact hc
  | false =>
    have hm : sW j ∉ ws := by simpa using hc
    simp only [hm, if_false]
    refine cont_nx ?_
    simp
    rw [free_at hj hall hc]
def prevW : Nat → Wrd
  | 0 => []
  | j + 1 => sW j
theorem step_ok {d : D} {sto : List Co} {x2 x3 : Slot} : ∀ j (h : j < 15), ∃ y2 y3, (ifS (truT (bin2 ltD (biE lenGO (consA (nameO 1) nilA)) (constE (.int 12)))) (setS 1 (bin2 addD (nameO 1) (constE (.str [97])))) (seqS (setS 2 (mthE "str" rstripM (nameO 1) (consA (constE (.str [122])) nilA)))
  (seqS (setS 3 (constE (.str [97, 98, 99, 100, 101, 102, 103, 104, 105, 106, 107, 108, 109, 110, 111, 112, 113, 114, 115, 116, 117, 118, 119, 120, 121, 122])))
  (setS 1 (bin2 addD (slcE (nameO 2) noP (someP (negE (constE (.int 1))))) (bin2 ixD (nameO 3) (bin2 addD (mthE "str" indexM (nameO 3) (consA (bin2 ixD (nameO 2) (negE (constE (.int 1)))) nilA)) (constE (.int 1))))))))) ⟨[.val d, .val (.str (prevW j)), x2, x3], sto⟩ = .ok .nx ⟨[.val d, .val (.str (sW j)), y2, y3], sto⟩
  | 0, _ => ⟨x2, x3, by kernel_rfl⟩
  | 1, _ => ⟨x2, x3, by kernel_rfl⟩
  | 2, _ => ⟨x2, x3, by kernel_rfl⟩
  | 3, _ => ⟨x2, x3, by kernel_rfl⟩
  | 4, _ => ⟨x2, x3, by kernel_rfl⟩
  | 5, _ => ⟨x2, x3, by kernel_rfl⟩
  | 6, _ => ⟨x2, x3, by kernel_rfl⟩
  | 7, _ => ⟨x2, x3, by kernel_rfl⟩
  | 8, _ => ⟨x2, x3, by kernel_rfl⟩
  | 9, _ => ⟨x2, x3, by kernel_rfl⟩
  | 10, _ => ⟨x2, x3, by kernel_rfl⟩
  | 11, _ => ⟨x2, x3, by kernel_rfl⟩
  | 12, _ => ⟨.val (.str [97, 97, 97, 97, 97, 97, 97, 97, 97, 97, 97, 97]), .val (.str [97, 98, 99, 100, 101, 102, 103, 104, 105, 106, 107, 108, 109, 110, 111, 112, 113, 114, 115, 116, 117, 118, 119, 120, 121, 122]), by kernel_rfl⟩
  | 13, _ => ⟨.val (.str [97, 97, 97, 97, 97, 97, 97, 97, 97, 97, 97, 98]), .val (.str [97, 98, 99, 100, 101, 102, 103, 104, 105, 106, 107, 108, 109, 110, 111, 112, 113, 114, 115, 116, 117, 118, 119, 120, 121, 122]), by kernel_rfl⟩
  | 14, _ => ⟨.val (.str [97, 97, 97, 97, 97, 97, 97, 97, 97, 97, 97, 99]), .val (.str [97, 98, 99, 100, 101, 102, 103, 104, 105, 106, 107, 108, 109, 110, 111, 112, 113, 114, 115, 116, 117, 118, 119, 120, 121, 122]), by kernel_rfl⟩
  | n + 15, h => absurd h (by omega)
theorem e_law_strange {d : D} {ws : List Wrd} {s : S} (hd : IsWs d ws) (h : ∀ w ∈ ws, codeOk w = true) (hl : ws.contains (sW 14) = false) : callF f__law_strange [d] s = .ok (.str (freeW ws)) s := by
  refine callF_pure rfl ?_
  unfold b__law_strange
  refine wp_seq ?_
  simp
  refine cont_nx ?_
  simp
  refine wp_while 15 (fun k s' => ∃ (j : Nat) (_ : j < 15) (x2 x3 : Slot), k = 15 - j ∧ s' = ⟨[.val d, .val (.str (prevW j)), x2, x3], s.sto⟩ ∧ ∀ i (hi : i < j), ws.contains (sW i) = true) (by rw [fuel_eq']; omega) ⟨0, by omega, _, _, rfl, rfl, fun i hi => absurd hi (Nat.not_lt_zero i)⟩ ?_
  rintro k s' ⟨j, hj, x2, x3, rfl, rfl, hall⟩
  simp
  refine ⟨by omega, ?_⟩
  unfold b__law_strange_l1
  obtain ⟨y2, y3, e⟩ := step_ok (d := d) (sto := s.sto) (x2 := x2) (x3 := x3) j hj
  refine wp_seq (wp_of_eq e (cont_nx ?_))
  simp [ni_ws hd h (sW_code j hj), settle_ws hd]
  cases hc : ws.contains (sW j) with
  | true =>
    have hj14 : j < 14 := by
      rcases Nat.lt_or_eq_of_le (Nat.le_of_lt_succ hj) with z | rfl
      · exact z
      · rw [hl] at hc; cases hc
    have hm : sW j ∈ ws := by simpa using hc
    simp only [hm, not_true_eq_false, if_false]
    simp
    refine ⟨j + 1, by omega, y2, y3, by omega, ?_, fun i hi => ?_⟩
    · rfl
    · rcases Nat.lt_or_eq_of_le (Nat.le_of_lt_succ hi) with z | rfl
      · exact hall i z
      · exact hc
  | false =>
    have hm : sW j ∉ ws := by simpa using hc
    simp only [hm, not_false_eq_true, if_true]
    simp
    rw [free_at hj hall hc]
end K02

set_option Elab.async false
set_option linter.all false
set_option maxRecDepth 100000
set_option maxHeartbeats 4000000
namespace K02
open PySem PySem.Spec PyProof.Rows L2 G
theorem ct_own {env : List Slot} {sto : List Co} {i : Nat} {xs : List D} (h : env[i]? = some (.own (.L xs))) : content ⟨env, sto⟩ (.own i) = some (.L xs) := by
  rw [q_ct_own]; simp only [h]
theorem so_own {env : List Slot} {sto : List Co} {i : Nat} {xs : List D} (h : env[i]? = some (.own (.L xs))) : seqOf ⟨env, sto⟩ (.own i) = some xs := by
  show coList (content ⟨env, sto⟩ (.own i)) = _
  rw [ct_own h]; rfl
theorem len_own {env : List Slot} {sto : List Co} {i : Nat} {xs : List D} (h : env[i]? = some (.own (.L xs))) : lenGO [.own i] ⟨env, sto⟩ = .ok (.int xs.length) ⟨env, sto⟩ := by
  show (match content ⟨env, sto⟩ (.own i) with | some (.M kvs) => R.ok (D.int kvs.length) ⟨env, sto⟩ | _ => lenO [.own i] ⟨env, sto⟩) = _
  rw [ct_own h]
  show (match seqOf ⟨env, sto⟩ (.own i) with | some xs => R.ok (D.int xs.length) ⟨env, sto⟩ | none => .bad) = _
  rw [so_own h]
theorem slice_own {env : List Slot} {sto : List Co} {i : Nat} {xs : List D} {lo hi : Option Int} (h : env[i]? = some (.own (.L xs))) : sliceD (.own i) lo hi ⟨env, sto⟩ = .ok (.lst (cutN xs lo hi)) ⟨env, sto⟩ := by
  show (match seqOf ⟨env, sto⟩ (.own i) with | some xs => R.ok (D.lst (cutN xs lo hi)) ⟨env, sto⟩ | none => .bad) = _
  rw [so_own h]
theorem add_ct {d e : D} {s : S} {xs ys : List D} (hd : (∃ i, d = .own i) ∨ ∃ i, d = .cel i) (h1 : content s d = some (.L xs)) (h2 : content s e = some (.L ys)) (hl : xs.length + ys.length ≤ 16777216) : addD d e s = .ok (.lst (xs ++ ys)) s := by
  have key : (match content s d, content s e with
      | some (.L xs), some (.L ys) => if xs.length + ys.length ≤ line then R.ok (D.lst (xs ++ ys)) s else .bad
      | _, _ => .bad) = R.ok (D.lst (xs ++ ys)) s := by
    rw [h1, h2]
    show (if xs.length + ys.length ≤ line then R.ok (D.lst (xs ++ ys)) s else .bad) = _
    rw [if_pos (by rw [line_eq']; exact hl)]
  rcases hd with ⟨i, rfl⟩ | ⟨i, rfl⟩ <;> exact key
theorem erase_map {α β : Type} {f : α → β} : ∀ (xs : List α) (j : Nat), (xs.map f).eraseIdx j = (xs.eraseIdx j).map f
  | [], _ => rfl
  | _ :: _, 0 => rfl
  | x :: xs, j + 1 => by
    have := erase_map (f := f) xs j
    simp only [List.map_cons, List.eraseIdx_cons_succ, this]
theorem pop_own_gen {env : List Slot} {sto : List Co} {n : Nat} {xs : List D} {i : Int} {j : Nat} {y : D} (h : env[n]? = some (.own (.L xs))) (e : (if small62 i then ixN xs.length i else none) = some j) (hy : xs[j]? = some y) : popM (.own n) [.int i] ⟨env, sto⟩ = .ok y ⟨env.set n (.own (.L (xs.eraseIdx j))), sto⟩ := by
  unfold popM
  rw [ct_own h]
  show (match (if small62 i then ixN xs.length i else none) with
      | some j => (match xs[j]? with
        | some y => putE (.L (xs.eraseIdx j)) (.own n) y ⟨env, sto⟩
        | none => .bad)
      | none => .bad) = _
  rw [e]
  show (match xs[j]? with
        | some y => putE (.L (xs.eraseIdx j)) (.own n) y ⟨env, sto⟩
        | none => .bad) = _
  rw [hy]
  show (match putCo ⟨env, sto⟩ (.L (xs.eraseIdx j)) (.own n) with | some s' => R.ok y s' | none => .bad) = _
  rw [q_putCo_own]
  simp only [h]
theorem pop_own {env : List Slot} {sto : List Co} {i j : Nat} {xs : List D} (h : env[i]? = some (.own (.L xs))) (hj : j < xs.length) (hs : j < 1000000000) : popM (.own i) [.int (j : Int)] ⟨env, sto⟩ = .ok xs[j] ⟨env.set i (.own (.L (xs.eraseIdx j))), sto⟩ :=
  pop_own_gen h (pop_ix hj hs) (List.getElem?_eq_getElem hj)
theorem append_own {env : List Slot} {sto : List Co} {i : Nat} {xs : List D} {y : D} (h : env[i]? = some (.own (.L xs))) (hl : xs.length < 16777216) : appendM (.own i) [y] ⟨env, sto⟩ = .ok .non ⟨env.set i (.own (.L (xs ++ [y]))), sto⟩ := by
  have hl' : xs.length < line := by rw [line_eq']; exact hl
  unfold appendM
  simp only [ct_own h, hl', if_true]
  unfold putE
  simp only [q_putCo_own, h]
theorem Tp.app' {n : Nat} {a : List Co} {c : Co} (h : Tp n a) : Tp n (a ++ [c]) := by
  obtain ⟨dg, mx, g, h0, h1⟩ := h
  exact ⟨dg, mx, getCo_app g, h0, h1⟩
def menuA : List Wrd := [[97], [97, 97], [98], [97, 98], [122]]
theorem menuA_code : ∀ w ∈ menuA, codeOk w = true := by decide
theorem Nt.tp2 {n : Nat} {a b : List Co} (h : Nt n a b) (t : Tp n a) : Tp n b := h.tp t
theorem address_wp {env : List Slot} {sto : List Co} {n : Nat} (t : Tp n sto) : wp (fun d s' => ∃ (p : Pl) (sto' : List Co), d = eP p ∧ p.length ≤ 5 ∧ (∀ w ∈ p, w ∈ menuA) ∧ s' = ⟨env, sto'⟩ ∧ Tp n sto') (callF f__law_address [.cel n] ⟨env, sto⟩) := by
  refine wp_callF (wp_runF rfl ?_)
  simp [b__law_address, line]
  refine wp_mono (draw_wp t (by omega) (by omega)) ?_
  rintro d s' ⟨i, sto1, rfl, i0, i1, rfl, nt⟩
  have sm : small62 i = true := small_of (by omega) (by omega)
  have t1 := nt.tp t
  simp [sm]
  refine wp_mono (wp_lcR i.toNat (fun k acc s' => ∃ (p : Pl) (sto' : List Co), acc.reverse = p.map D.str ∧ p.length = k ∧ (∀ w ∈ p, w ∈ menuA) ∧ s' = ⟨[.val (.cel n), .emp], sto'⟩ ∧ Tp n sto') (Q := fun c s' => ∃ (p : Pl) (sto' : List Co), c = .L (p.map D.str) ∧ p.length ≤ 5 ∧ (∀ w ∈ p, w ∈ menuA) ∧ s' = ⟨[.val (.cel n), .emp], sto'⟩ ∧ Tp n sto') (by rw [fuel_eq']; omega) ⟨[], sto1, rfl, rfl, by simp, rfl, t1⟩ ?_ ?_) ?_
  · rintro k acc s' hk ⟨p, sto2, e, hp, hw, rfl, t2⟩
    refine ⟨.int (0 + k), by simp [rngN, hk], rfl, ?_⟩
    simp [wipeS, wipeE, line]
    refine wp_mono (choose_wp (xs := menuA.map D.str) t2 (by simp [menuA]) (by simp [menuA])) ?_
    rintro d s' ⟨hd, sto3, rfl, nt3⟩
    obtain ⟨w, hw2, rfl⟩ := List.mem_map.mp hd
    refine ⟨p ++ [w], sto3, by rw [List.reverse_cons, e]; simp, by simp [hp], ?_, rfl, nt3.tp t2⟩
    intro x hx
    rcases List.mem_append.mp hx with hx | hx
    · exact hw x hx
    · rw [List.mem_singleton.mp hx]; exact hw2
  · rintro acc s' ⟨p, sto2, e, hp, hw, rfl, t2⟩
    exact ⟨by simp [rngN], p, sto2, by rw [e], by omega, hw, rfl, t2⟩
  · rintro c s' ⟨p, sto2, rfl, hp, hw, rfl, t2⟩
    simp
    exact ⟨p, sto2, rfl, hp, hw, rfl, t2⟩
theorem mulS_a {k : Nat} (h1 : 1 ≤ k) (h2 : k ≤ 100) {s : S} : mulSD (.str [97]) (.int (k : Int)) s = .ok (.str (List.replicate k 97)) s := by
  unfold mulSD
  simp only []
  have e : (List.replicate (k : Int).toNat [97]).flatten = List.replicate k 97 := by
    rw [show (k : Int).toNat = k from rfl, List.flatten_replicate_singleton]
  rw [if_pos ⟨by omega, by omega, rfl, by show k * 1 ≤ 16777216; omega⟩, e]
theorem rep_menu : ∀ k, 1 ≤ k → k ≤ 12 → List.replicate k 97 ∈ menuB := by
  intro k h1 h2
  have : k = 1 ∨ k = 2 ∨ k = 3 ∨ k = 4 ∨ k = 5 ∨ k = 6 ∨ k = 7 ∨ k = 8 ∨ k = 9 ∨ k = 10 ∨ k = 11 ∨ k = 12 := by omega
  rcases this with rfl | rfl | rfl | rfl | rfl | rfl | rfl | rfl | rfl | rfl | rfl | rfl <;> decide
/-- words of the menu -/
def OkWs (ws : List Wrd) (n : Nat) : Prop := ws.length ≤ n ∧ ∀ w ∈ ws, w ∈ menuB
theorem OkWs.sub {ws vs : List Wrd} {n : Nat} (h : OkWs ws n) (hl : vs.length ≤ ws.length) (hm : ∀ w ∈ vs, w ∈ ws) : OkWs vs n := ⟨Nat.le_trans hl h.1, fun w hw => h.2 w (hm w hw)⟩
theorem words_tail {n : Nat} {s1 : Slot} {sto : List Co} {ws : List Wrd} (t : Tp n sto) (hw : OkWs ws 20) (hs : s1 = .own (.L (ws.map D.str)) ∨ ∃ c, c ≠ n ∧ s1 = .val (.cel c) ∧ getCo sto c = some (.L (ws.map D.str))) :
    wp (fun fl s' => ∃ (vs : List Wrd) (sto' : List Co), fl = .rt (.lst (vs.map D.str)) ∧ OkWs vs 40 ∧ s'.sto = sto' ∧ Tp n sto') ((retS (ifV (truT (bin2 eqD (callE f__law_draw [] (consA (nameV 0) (consA (constE (.int 2)) nilA))) (constE (.int 0)))) (frzE (revF (nameO 1))) (bin2 addD (nameO 1) (slcE (nameO 1) noP (someP (constE (.int 2))))))) ⟨[.val (.cel n), s1, .emp], sto⟩) := by
  have hlen := hw.1
  have hrev : OkWs ws.reverse 40 := ⟨by rw [List.length_reverse]; omega, fun w h => hw.2 w (List.mem_reverse.mp h)⟩
  have hadd : OkWs (ws ++ ws.take 2) 40 := ⟨by rw [List.length_append, List.length_take]; omega, fun w h => by
    rcases List.mem_append.mp h with h | h
    · exact hw.2 w h
    · exact hw.2 w (List.mem_of_mem_take h)⟩
  have ecut : cutN (ws.map D.str) none (some 2) = (ws.take 2).map D.str := take_eP (k := 2)
  have hl2 : (ws.map D.str).length + ((ws.take 2).map D.str).length ≤ 16777216 := by simp only [List.length_map, List.length_take]; omega
  simp
  refine wp_mono (draw_wp t (by omega) (by omega)) ?_
  rintro d s' ⟨r, sto1, rfl, r0, r1, rfl, nt⟩
  have t1 := nt.tp t
  rcases hs with rfl | ⟨c, hc, rfl, g⟩
  · by_cases hr : r = 0
    · subst hr
      simp
      exact ⟨ws.reverse, by simp, hrev, t1⟩
    · have esl : sliceD (.own 1) none (some 2) ⟨[.val (.cel n), .own (.L (ws.map D.str)), .emp], sto1⟩ = .ok (.lst ((ws.map D.str).take 2)) ⟨[.val (.cel n), .own (.L (ws.map D.str)), .emp], sto1⟩ := by rw [slice_own (xs := ws.map D.str) rfl, ecut, List.map_take]
      have ead : addD (.own 1) (.lst ((ws.map D.str).take 2)) ⟨[.val (.cel n), .own (.L (ws.map D.str)), .emp], sto1⟩ = .ok (.lst ((ws ++ ws.take 2).map D.str)) ⟨[.val (.cel n), .own (.L (ws.map D.str)), .emp], sto1⟩ := by
        rw [← List.map_take, add_ct (xs := ws.map D.str) (ys := (ws.take 2).map D.str) (.inl ⟨1, rfl⟩) (ct_own rfl) rfl hl2, List.map_append]
      simp [hr, esl, ead, -List.map_append]
      exact ⟨ws ++ ws.take 2, by simp, hadd, t1⟩
  · have g1 : getCo sto1 c = some (.L (ws.map D.str)) := by rw [nt.ne hc]; exact g
    by_cases hr : r = 0
    · subst hr
      simp [g1]
      exact ⟨ws.reverse, by simp, hrev, t1⟩
    · have esl : ∀ env, sliceD (.cel c) none (some 2) ⟨env, sto1⟩ = .ok (.lst ((ws.map D.str).take 2)) ⟨env, sto1⟩ := fun env => by rw [slice_cel g1, ecut, List.map_take]
      have ead : ∀ env, addD (.cel c) (.lst ((ws.map D.str).take 2)) ⟨env, sto1⟩ = .ok (.lst ((ws ++ ws.take 2).map D.str)) ⟨env, sto1⟩ := fun env => by
        rw [← List.map_take, add_ct (xs := ws.map D.str) (ys := (ws.take 2).map D.str) (.inr ⟨c, rfl⟩) (by rw [q_ct_cel, g1]; rfl) rfl hl2, List.map_append]
      simp [hr, esl, ead, -List.map_append]
      exact ⟨ws ++ ws.take 2, by simp, hadd, t1⟩
theorem words_wp {env : List Slot} {sto : List Co} {n : Nat} (t : Tp n sto) : wp (fun d s' => ∃ (ws : List Wrd) (sto' : List Co), d = .lst (ws.map D.str) ∧ OkWs ws 40 ∧ s' = ⟨env, sto'⟩ ∧ Tp n sto') (callF f__law_words [.cel n] ⟨env, sto⟩) := by
  refine wp_callF (wp_runF rfl ?_)
  unfold b__law_words
  refine wp_seq ?_
  simp
  refine wp_mono (draw_wp t (by omega) (by omega)) ?_
  rintro d s' ⟨r, sto1, rfl, r0, r1, rfl, nt⟩
  have t1 := nt.tp t
  obtain ⟨k, rfl⟩ := Int.eq_ofNat_of_zero_le r0
  have sm1 : small62 1 = true := small_of (by omega) (by omega)
  have sm2 : small62 (1 + (k : Int)) = true := small_of (by omega) (by omega)
  have ek : (1 + (k : Int) - 1).toNat = k := by omega
  simp [sm1, sm2, ek]
  refine wp_mono (wp_lcR k (fun i acc s' => ∃ ws : List Wrd, acc.reverse = ws.map D.str ∧ ws.length = i ∧ (∀ w ∈ ws, w ∈ menuB) ∧ s' = ⟨[.val (.cel n), .emp, .emp], sto1⟩) (Q := fun c s' => ∃ ws : List Wrd, c = .L (ws.map D.str) ∧ OkWs ws 12 ∧ s' = ⟨[.val (.cel n), .emp, .emp], sto1⟩) (by rw [fuel_eq']; omega) ⟨[], rfl, rfl, by simp, rfl⟩ ?_ ?_) ?_
  · rintro i acc s' hi ⟨ws, e, hl, hm, rfl⟩
    refine ⟨.int (1 + i), by simp [rngN, hi], rfl, ?_⟩
    have e1 : (1 + (i : Int)) = ((i + 1 : Nat) : Int) := by omega
    have hmul : ∀ s, mulSD (.str [97]) (.int (1 + (i : Int))) s = .ok (.str (List.replicate (i + 1) 97)) s := fun s => by rw [e1]; exact mulS_a (by omega) (by omega)
    simp [wipeS, wipeE, hmul]
    refine ⟨ws ++ [List.replicate (i + 1) 97], by rw [List.reverse_cons, e]; simp, by simp [hl], ?_, rfl⟩
    intro w hw
    rcases List.mem_append.mp hw with hw | hw
    · exact hm w hw
    · rw [List.mem_singleton.mp hw]; exact rep_menu _ (by omega) (by omega)
  · rintro acc s' ⟨ws, e, hl, hm, rfl⟩
    exact ⟨by simp [rngN], ws, by rw [e], ⟨by omega, hm⟩, rfl⟩
  · rintro c s' ⟨ws, rfl, hw, rfl⟩
    simp
    refine cont_nx (wp_seq ?_)
    simp
    refine wp_mono (draw_wp t1 (by omega) (by omega)) ?_
    rintro d s' ⟨q, sto2, rfl, q0, q1, rfl, nt2⟩
    have t2 := nt2.tp t1
    -- what comes behind
    have rest : ∀ (s1 : Slot) (st : List Co) (ws : List Wrd), Tp n st → OkWs ws 20 → (s1 = .own (.L (ws.map D.str)) ∨ ∃ c, c ≠ n ∧ s1 = .val (.cel c) ∧ getCo st c = some (.L (ws.map D.str))) → ∀ Q : Fl → S → Prop, (∀ (vs : List Wrd) (s' : S), OkWs vs 40 → Tp n s'.sto → Q (.rt (.lst (vs.map D.str))) s') →
        wp Q (seqS (ifS (andT (truT (bin2 eqD (callE f__law_draw [] (consA (nameV 0) (consA (constE (.int 3)) nilA))) (constE (.int 0)))) (truT (bin2 neLD (nameO 1) (frzE (lstF nilA))))) (exprS (mthE "list" popM (nameO 1) (consA (callE f__law_draw [] (consA (nameV 0) (consA (biE lenGO (consA (nameO 1) nilA)) nilA))) nilA))) nextS)
  (retS (ifV (truT (bin2 eqD (callE f__law_draw [] (consA (nameV 0) (consA (constE (.int 2)) nilA))) (constE (.int 0)))) (frzE (revF (nameO 1))) (bin2 addD (nameO 1) (slcE (nameO 1) noP (someP (constE (.int 2))))))) ⟨[.val (.cel n), s1, .emp], st⟩) := fun s1 st ws t hw hs Q hQ => by
      have fin : ∀ (s1 : Slot) (st : List Co) (ws : List Wrd), Tp n st → OkWs ws 20 → (s1 = .own (.L (ws.map D.str)) ∨ ∃ c, c ≠ n ∧ s1 = .val (.cel c) ∧ getCo st c = some (.L (ws.map D.str))) → wp Q _ := fun s1 st ws t hw hs => wp_mono (words_tail t hw hs) (by
        rintro fl s' ⟨vs, sto', rfl, hv, rfl, tv⟩
        exact hQ vs s' hv tv)
      have hlen := hw.1
      refine wp_seq ?_
      simp
      refine wp_mono (draw_wp t (by omega) (by omega)) ?_
      rintro d s' ⟨r, st1, rfl, r0, r1, rfl, nt⟩
      have t1 := nt.tp t
      have hs1 : s1 = .own (.L (ws.map D.str)) ∨ ∃ c, c ≠ n ∧ s1 = .val (.cel c) ∧ getCo st1 c = some (.L (ws.map D.str)) := by
        rcases hs with h | ⟨c, hc, h, g⟩
        · exact .inl h
        · exact .inr ⟨c, hc, h, by rw [nt.ne hc]; exact g⟩
      by_cases hr : r = 0
      · subst hr
        simp
        cases ws with
        | nil =>
          rcases hs1 with rfl | ⟨c, hc, rfl, g⟩
          · have en : neLD (.own 1) (.lst []) ⟨[.val (.cel n), .own (.L []), .emp], st1⟩ = .ok (.bl false) ⟨[.val (.cel n), .own (.L []), .emp], st1⟩ := neLD_own' (xs := []) rfl
            simp [en]
            exact cont_nx (fin _ _ [] t1 hw (.inl rfl))
          · have en : ∀ env, neLD (.cel c) (.lst []) ⟨env, st1⟩ = .ok (.bl false) ⟨env, st1⟩ := fun env => neLD_cel g
            simp [en]
            exact cont_nx (fin _ _ [] t1 hw (.inr ⟨c, hc, rfl, g⟩))
        | cons w0 wr =>
          have hpos : 0 < (w0 :: wr).length := by simp
          have sub : ∀ j, OkWs ((w0 :: wr).eraseIdx j) 20 := fun j => hw.sub (List.length_eraseIdx_le _ _) (fun w h => List.mem_of_mem_eraseIdx h)
          have emap : ∀ j, ((w0 :: wr).map D.str).eraseIdx j = ((w0 :: wr).eraseIdx j).map D.str := fun j => erase_map _ _
          rcases hs1 with rfl | ⟨c, hc, rfl, g⟩
          · have en : neLD (.own 1) (.lst []) ⟨[.val (.cel n), .own (.L ((w0 :: wr).map D.str)), .emp], st1⟩ = .ok (.bl true) ⟨[.val (.cel n), .own (.L ((w0 :: wr).map D.str)), .emp], st1⟩ := neLD_own' (xs := (w0 :: wr).map D.str) rfl
            have el : lenGO [.own 1] ⟨[.val (.cel n), .own (.L ((w0 :: wr).map D.str)), .emp], st1⟩ = .ok (.int ((w0 :: wr).map D.str).length) ⟨[.val (.cel n), .own (.L ((w0 :: wr).map D.str)), .emp], st1⟩ := len_own rfl
            rw [List.length_map] at el
            have ek : ∀ st, kindOk "list" ⟨[.val (.cel n), .own (.L ((w0 :: wr).map D.str)), .emp], st⟩ (.own 1) = true := fun st => rfl
            simp [en, el, ek, -List.map_cons]
            refine wp_mono (draw_wp t1 (by omega) (by simp at hlen; omega)) ?_
            rintro d s' ⟨z, st2, rfl, z0, z1, rfl, nt2⟩
            simp [-List.map_cons]
            obtain ⟨j, rfl⟩ := Int.eq_ofNat_of_zero_le z0
            have hj : j < ((w0 :: wr).map D.str).length := by rw [List.length_map, List.length_cons]; omega
            rw [pop_own (xs := (w0 :: wr).map D.str) rfl hj (by simp at hlen; omega), emap]
            refine wp_ret ?_
            simp only [wp_ok]
            exact cont_nx (fin _ _ _ (nt2.tp t1) (sub j) (.inl rfl))
          · have en : ∀ env, neLD (.cel c) (.lst []) ⟨env, st1⟩ = .ok (.bl true) ⟨env, st1⟩ := fun env => neLD_cel g
            have el : ∀ env, lenGO [.cel c] ⟨env, st1⟩ = .ok (.int (w0 :: wr).length) ⟨env, st1⟩ := fun env => by rw [len_cel g, List.length_map]
            simp [en, el, g, -List.map_cons]
            refine wp_mono (draw_wp t1 (by omega) (by simp at hlen; omega)) ?_
            rintro d s' ⟨z, st2, rfl, z0, z1, rfl, nt2⟩
            simp [-List.map_cons]
            obtain ⟨j, rfl⟩ := Int.eq_ofNat_of_zero_le z0
            have hj : j < ((w0 :: wr).map D.str).length := by rw [List.length_map, List.length_cons]; omega
            have g2 : getCo st2 c = some (.L ((w0 :: wr).map D.str)) := by rw [nt2.ne hc]; exact g
            rw [pop_cel g2 hj (by simp at hlen; omega), emap]
            refine wp_ret ?_
            simp only [wp_ok]
            have t2 := nt2.tp t1
            refine cont_nx (fin _ _ _ ?_ (sub j) (.inr ⟨c, hc, rfl, getCo_set g2⟩))
            obtain ⟨dg, mx, gt, m0, m1⟩ := t2
            exact ⟨dg, mx, by rw [getCo_ne (Ne.symm hc)]; exact gt, m0, m1⟩
      · simp [hr]
        exact cont_nx (fin _ _ ws t1 hw hs1)
    have hQ : ∀ (vs : List Wrd) (s' : S), OkWs vs 40 → Tp n s'.sto → (fun fl s => match fl with | .rt d => hold (fun d s' => ∃ (ws : List Wrd) (sto' : List Co), d = .lst (ws.map D.str) ∧ OkWs ws 40 ∧ s' = ⟨env, sto'⟩ ∧ Tp n sto') d { env := env, sto := s.sto } | .nx => hold (fun d s' => ∃ (ws : List Wrd) (sto' : List Co), d = .lst (ws.map D.str) ∧ OkWs ws 40 ∧ s' = ⟨env, sto'⟩ ∧ Tp n sto') D.non { env := env, sto := s.sto } | _ => False : Fl → S → Prop) (.rt (.lst (vs.map D.str))) s' := fun vs s' h1 h2 => ⟨vs, s'.sto, rfl, h1, rfl, h2⟩
    by_cases hq : q = 0
    · subst hq
      have eadd : (addF (nameO 1) (frzE (lstF (consA (constE (.str [97, 97, 97, 97, 97, 97, 97, 97, 97, 97, 97, 98])) (consA (constE (.str [97, 97, 97, 97, 97, 97, 97, 97, 97, 97, 97, 99])) (consA (constE (.str [98])) nilA)))))) ⟨[.val (.cel n), .own (.L (ws.map D.str)), .emp], sto2⟩ = .ok (.L ((ws ++ [[97, 97, 97, 97, 97, 97, 97, 97, 97, 97, 97, 98], [97, 97, 97, 97, 97, 97, 97, 97, 97, 97, 97, 99], [98]]).map D.str)) ⟨[.val (.cel n), .own (.L (ws.map D.str)), .emp], sto2⟩ := by
        unfold addF
        have hl := hw.1
        simp [line]
        omega
      simp [eadd, -List.map_append]
      refine cont_nx (rest _ _ _ (Tp.app' t2) ⟨by rw [List.length_append]; have := hw.1; simp; omega, fun w h => ?_⟩ (.inr ⟨sto2.length, by have := t2.lt; omega, rfl, getCo_last⟩) _ hQ)
      rcases List.mem_append.mp h with h | h
      · exact hw.2 w h
      · have hm : ∀ w ∈ ([[97, 97, 97, 97, 97, 97, 97, 97, 97, 97, 97, 98], [97, 97, 97, 97, 97, 97, 97, 97, 97, 97, 97, 99], [98]] : List Wrd), w ∈ menuB := by decide
        exact hm w h
    · simp [hq]
      exact cont_nx (rest _ _ ws t2 ⟨by have := hw.1; omega, hw.2⟩ (.inl rfl) _ hQ)
end K02

set_option Elab.async false
set_option linter.all false
set_option maxRecDepth 100000
set_option maxHeartbeats 4000000
namespace K02
open PySem PySem.Spec PyProof.Rows L2 G
def Cod (a : Pl) : Prop := ∀ w ∈ a, codeOk w = true
theorem lst_eP {a : Pl} {s : S} : listGO [eP a] s = .ok (.lst (a.map D.str)) s := by rfl
theorem cut_lst {a : Pl} {k : Nat} {s : S} : sliceD (.lst (a.map D.str)) none (some (k : Int)) s = .ok (.lst ((a.take k).map D.str)) s := by
  show R.ok (D.lst (cutN (a.map D.str) none (some (k : Int)))) _ = _
  rw [take_eP]
theorem drop_lst {a : Pl} {k : Nat} {s : S} : sliceD (.lst (a.map D.str)) (some (k : Int)) none s = .ok (.lst ((a.drop k).map D.str)) s := by
  show R.ok (D.lst (cutN (a.map D.str) (some (k : Int)) none)) _ = _
  rw [cutN_some, ← List.map_drop]
theorem cut_lstd {a : Pl} {k : Nat} : cutN (a.map D.str) (some (k : Int)) none = (a.drop k).map D.str := by rw [cutN_some, ← List.map_drop]
theorem repr_bl (t : Bool) : ∃ x : List Nat, ∀ s, reprGO [.bl t] s = .ok (.str x) s := rpr_sd (n := 0) rfl (by decide) (by cases t <;> decide)
theorem l1_ok {x0 x1 x2 x3 x8 x9 x10 x11 : Slot} {sto : List Co} {a b : Pl} (ha : Cod a) (hb : Cod b) (la : a.length ≤ 1000) :
    wp (fun fl s' => fl = .nx ∧ ∃ y8, s' = ⟨[x0, x1, x2, x3, .emp, .val (eP a), .emp, .val (eP b), y8, x9, x10, x11, .emp], sto⟩) (b_law_l1 ⟨[x0, x1, x2, x3, .emp, .val (eP a), .emp, .val (eP b), x8, x9, x10, x11, .emp], sto⟩) := by
  have h8 : ∀ s, eqD (.lst ((a.take b.length).map D.str)) (.lst (b.map D.str)) s = .ok (.bl (decide (a.take b.length = b))) s := fun s => eq_strs (fun w hw => ha w (List.mem_of_mem_take hw)) hb
  have hcod : Cod (a.drop b.length) := fun w hw => ha w (List.mem_of_mem_drop hw)
  obtain ⟨x, hx⟩ := repr_bl (decide (a.take b.length = b))
  have e8 : b.length ≤ a.length ∨ decide (a.take b.length = b) = false := by
    by_cases h : b.length ≤ a.length
    · exact .inl h
    · refine .inr (decide_eq_false fun e => ?_)
      have := congrArg List.length e
      rw [List.length_take] at this
      omega
  unfold b_law_l1
  refine wp_seq ?_
  have p1 : wp (fun fl s' => fl = .nx ∧ s' = ⟨[x0, x1, x2, x3, .emp, .val (eP a), .emp, .val (eP b), .val (.bl (decide (a.take b.length = b))), x9, x10, x11, .emp], sto⟩) (setS 8 (andV (bin2 leD (biE lenGO (consA (nameO 7) nilA)) (biE lenGO (consA (nameO 5) nilA))) (bin2 eqD (slcE (biE listGO (consA (nameO 5) nilA)) noP (someP (biE lenGO (consA (nameO 7) nilA)))) (biE listGO (consA (nameO 7) nilA)))) ⟨[x0, x1, x2, x3, .emp, .val (eP a), .emp, .val (eP b), x8, x9, x10, x11, .emp], sto⟩) := by
    rcases e8 with h | h
    · simp [len_eP, lst_eP, take_eP, h8, h, -List.map_take]
    · by_cases h2 : b.length ≤ a.length
      · simp [len_eP, lst_eP, take_eP, h8, h2, -List.map_take]
      · rw [h]
        simp [len_eP, h2]
  refine wp_mono p1 ?_
  rintro fl s' ⟨rfl, rfl⟩
  refine cont_nx (wp_seq ?_)
  generalize hT : decide (a.take b.length = b) = T at *
  have eb : ∀ s, callF f_begins [eP a, eP b] s = .ok (.bl T) s := fun s => by rw [e_begins ha hb, hT]
  simp [settle_eP, eb, hx]
  refine cont_nx (wp_seq ?_)
  have ne1 : ∀ s, neD (eP (a.drop b.length)) (eP (a.drop b.length)) s = .ok (.bl false) s := fun s => by rw [ne_eP hcod hcod]; simp
  have tup1 : ∀ s, tupleO [.lst ((a.drop b.length).map D.str)] s = .ok (eP (a.drop b.length)) s := fun s => rfl
  have p2 : wp (fun fl s' => fl = .nx ∧ s' = ⟨[x0, x1, x2, x3, .emp, .val (eP a), .emp, .val (eP b), .val (.bl T), x9, x10, x11, .emp], sto⟩) (ifS (andT (truT (nameO 8)) (truT (bin2 neD (callE f_rest_of [] (consA (nameV 5) (consA (nameV 7) nilA))) (biE tupleO (consA (slcE (biE listGO (consA (nameO 5) nilA)) (someP (biE lenGO (consA (nameO 7) nilA))) noP) nilA))))) (retS (constE (.bl false))) nextS ⟨[x0, x1, x2, x3, .emp, .val (eP a), .emp, .val (eP b), .val (.bl T), x9, x10, x11, .emp], sto⟩) := by
    cases T
    · simp
    · simp [settle_eP, e_rest, lst_eP, len_eP, cut_lstd, tup1, ne1, -List.map_drop]
  refine wp_mono p2 ?_
  rintro fl s' ⟨rfl, rfl⟩
  refine cont_nx (wp_seq ?_)
  have it : ∀ s, (tyOf s (keyP a)).bind (ansI "tuple") = some true := fun _ => rfl
  simp [settle_eP, e_key, it]
  refine cont_nx ?_
  have nb : ∀ (t : Bool) s, neD (.bl t) (.bl t) s = .ok (.bl false) s := fun t s => by cases t <;> rfl
  simp [settle_eP, e_key, lt_key ha hb, e_before la, nb]
/-- the beginnings, by the law's own words -/
theorem pre_ok {x0 x1 x2 x3 x7 x8 x9 x10 x11 : Slot} {sto : List Co} {a : Pl} (la : a.length ≤ 1000) :
    wp (fun c s' => c = .L ((prefixes a).map eP) ∧ s' = ⟨[x0, x1, x2, x3, .emp, .val (eP a), .emp, x7, x8, x9, x10, x11, .emp], sto⟩) (lcF (rng1I (bin2 addD (biE lenGO (consA (nameO 5) nilA)) (constE (.int 1)))) [6] (nameG 6) yesT (slcE (nameO 5) noP (someP (nameO 6))) ⟨[x0, x1, x2, x3, .emp, .val (eP a), .emp, x7, x8, x9, x10, x11, .emp], sto⟩) := by
  have sm : small62 ((a.length : Int) + 1) = true := small_of (by omega) (by omega)
  simp [eP, sm]
  refine wp_lcR (a.length + 1) (fun i acc s' => s' = ⟨[x0, x1, x2, x3, .emp, .val (eP a), .emp, x7, x8, x9, x10, x11, .emp], sto⟩ ∧ acc.reverse = (((List.range i).map fun n => a.take n).map eP)) (Q := fun c s' => c = .L ((prefixes a).map eP) ∧ s' = ⟨[x0, x1, x2, x3, .emp, .val (eP a), .emp, x7, x8, x9, x10, x11, .emp], sto⟩) (by rw [fuel_eq']; omega) ⟨rfl, rfl⟩ ?_ ?_
  · rintro i acc s' hi ⟨rfl, e⟩
    refine ⟨.int (0 + i), by simp [rngN, eP]; omega, rfl, ?_⟩
    simp [wipeS, wipeE, eP, cutN_none]
    refine ⟨rfl, ?_⟩
    rw [List.reverse_cons, e, List.range_succ]
    simp [eP]
  · rintro acc s' ⟨rfl, e⟩
    refine ⟨?_, by rw [e]; rfl, rfl⟩
    unfold rngN
    rw [if_neg]
    simp
theorem l2_ok {x0 x1 x2 x7 x8 x9 x10 x11 : Slot} {sto : List Co} {L : List Pl} {a : Pl} (ha : Cod a) (la : a.length ≤ 1000) (hL : ∀ b ∈ L, Cod b) (ll : L.length ≤ 100) :
    wp (fun fl s' => fl = .nx ∧ ∃ y7 y8, s' = ⟨[x0, x1, x2, .val (.lst (L.map eP)), .emp, .val (eP a), .emp, y7, y8, x9, x10, x11, .emp], sto⟩) (b_law_l2 ⟨[x0, x1, x2, .val (.lst (L.map eP)), .emp, .val (eP a), .emp, x7, x8, x9, x10, x11, .emp], sto⟩) := by
  have hpre : ∀ p ∈ prefixes a, ∀ w ∈ p, codeOk w = true := fun p hp w hw => by
    obtain ⟨n, _, rfl⟩ := List.mem_map.mp hp
    exact ha w (List.mem_of_mem_take hw)
  have ebeg : ∀ s, callF f_beginnings [eP a] s = .ok (.lst ((prefixes a).map eP)) s := fun s => e_beginnings (by omega)
  unfold b_law_l2
  refine wp_seq ?_
  simp [settle_eP, ebeg, -q_lcF]
  refine wp_mono (pre_ok la) ?_
  rintro c s' ⟨rfl, rfl⟩
  have ens : ∀ s, neD (.lst ((prefixes a).map eP)) (.lst ((prefixes a).map eP)) s = .ok (.bl false) s := fun s => ne_same hpre
  simp [ens]
  refine cont_nx ?_
  simp
  refine wp_for_fix (fun i s' => ∃ y7 y8, s' = ⟨[x0, x1, x2, .val (.lst (L.map eP)), .emp, .val (eP a), .emp, y7, y8, x9, x10, x11, .emp], sto⟩) (by rw [List.length_map, fuel_eq']; omega) ⟨_, _, rfl⟩ ?_ ?_
  · rintro i s' hi ⟨y7, y8, rfl⟩
    have hi' : i < L.length := by simpa using hi
    rw [List.getElem_map]
    simp
    refine wp_mono (l1_ok ha (hL _ (List.getElem_mem hi')) la) ?_
    rintro fl s' ⟨rfl, y8, rfl⟩
    exact ⟨_, _, rfl⟩
  · rintro s' ⟨y7, y8, rfl⟩
    exact ⟨rfl, _, _, rfl⟩
end K02

set_option Elab.async false
set_option linter.all false
set_option maxRecDepth 100000
set_option maxHeartbeats 4000000
namespace K02
open PySem PySem.Spec PyProof.Rows L2 G
def St (ns : List Int) (s : S) : Prop := ∃ x1 x2 x3 x5 x7 x8 x9 x10 x11 sto, s = ⟨[.val (.scr ns), x1, x2, x3, .emp, x5, .emp, x7, x8, x9, x10, x11, .emp], sto⟩
theorem well_wp {env : List Slot} {sto : List Co} {ns : List Int} {k : Nat} (hl : ns.length ≤ 63) (hb : ∀ z ∈ ns, Builtin.Int.intBits z ≤ 1048576) (hk : k < 1000) : wp (fun d s' => ∃ sto' : List Co, d = .cel sto.length ∧ s' = ⟨env, sto'⟩ ∧ Tp sto.length sto') (callF f__law_well [.scr ns, .int k] ⟨env, sto⟩) := by
  obtain ⟨dg, mx, e, h0, h1⟩ := tape_ok (s := ⟨env, sto⟩) hl hb hk
  exact wp_of_eq e ⟨_, rfl, rfl, dg, mx, getCo_last, h0, h1⟩
theorem loop_ok {x0 x1 x2 x5 x7 x8 x9 x10 x11 : Slot} {sto : List Co} {L : List Pl} (hL : ∀ b ∈ L, Cod b ∧ b.length ≤ 1000) (ll : L.length ≤ 100) :
    wp (fun fl s' => fl = .nx ∧ ∃ y5 y7 y8, s' = ⟨[x0, x1, x2, .val (.lst (L.map eP)), .emp, y5, .emp, y7, y8, x9, x10, x11, .emp], sto⟩) (forS (ltI (nameV 3)) (nameG 5) b_law_l2 ⟨[x0, x1, x2, .own (.L (L.map eP)), .emp, x5, .emp, x7, x8, x9, x10, x11, .emp], sto⟩) := by
  have es : G.settle (.own 3) ⟨[x0, x1, x2, .own (.L (L.map eP)), .emp, x5, .emp, x7, x8, x9, x10, x11, .emp], sto⟩ = .ok (.lst (L.map eP)) ⟨[x0, x1, x2, .val (.lst (L.map eP)), .emp, x5, .emp, x7, x8, x9, x10, x11, .emp], sto⟩ := by rfl
  simp [es]
  refine wp_for_fix (fun i s' => ∃ y5 y7 y8, s' = ⟨[x0, x1, x2, .val (.lst (L.map eP)), .emp, y5, .emp, y7, y8, x9, x10, x11, .emp], sto⟩) (by rw [List.length_map, fuel_eq']; omega) ⟨_, _, _, rfl⟩ ?_ ?_
  · rintro i s' hi ⟨y5, y7, y8, rfl⟩
    have hi' : i < L.length := by simpa using hi
    have h := hL _ (List.getElem_mem hi')
    rw [List.getElem_map]
    simp
    refine wp_mono (l2_ok h.1 h.2 (fun b hb => (hL b hb).1) ll) ?_
    rintro fl s' ⟨rfl, y7, y8, rfl⟩
    exact ⟨_, _, _, rfl⟩
  · rintro s' ⟨y5, y7, y8, rfl⟩
    exact ⟨rfl, _, _, _, rfl⟩
theorem six_ok {x0 x1 x3 x5 x7 x8 x9 x10 x11 : Slot} {sto : List Co} {n : Nat} (t : Tp n sto) :
    wp (fun c s' => ∃ (L : List Pl) (sto' : List Co), c = .L (L.map eP) ∧ L.length = 6 ∧ (∀ p ∈ L, Cod p ∧ p.length ≤ 5) ∧ s' = ⟨[x0, x1, .val (.cel n), x3, .emp, x5, .emp, x7, x8, x9, x10, x11, .emp], sto'⟩ ∧ Tp n sto') (lcF (rng1I (constE (.int 6))) [4] (nameG 4) yesT (callE f__law_address [] (consA (nameV 2) nilA)) ⟨[x0, x1, .val (.cel n), x3, .emp, x5, .emp, x7, x8, x9, x10, x11, .emp], sto⟩) := by
  have sm : small62 6 = true := small_of (by omega) (by omega)
  simp [sm]
  refine wp_lcR 6 (fun i acc s' => ∃ (L : List Pl) (sto' : List Co), acc.reverse = L.map eP ∧ L.length = i ∧ (∀ p ∈ L, Cod p ∧ p.length ≤ 5) ∧ s' = ⟨[x0, x1, .val (.cel n), x3, .emp, x5, .emp, x7, x8, x9, x10, x11, .emp], sto'⟩ ∧ Tp n sto') (by rw [fuel_eq']; omega) ⟨[], sto, rfl, rfl, by simp, rfl, t⟩ ?_ ?_
  · rintro i acc s' hi ⟨L, sto1, e, hl, hL, rfl, t1⟩
    refine ⟨.int (0 + i), by simp [rngN, hi], rfl, ?_⟩
    simp [wipeS, wipeE]
    refine wp_mono (address_wp t1) ?_
    rintro d s' ⟨p, sto2, rfl, hp, hm, rfl, t2⟩
    refine ⟨L ++ [p], sto2, by rw [List.reverse_cons, e]; simp, by simp [hl], ?_, rfl, t2⟩
    intro x hx
    rcases List.mem_append.mp hx with hx | hx
    · exact hL x hx
    · rw [List.mem_singleton.mp hx]; exact ⟨fun w hw => menuA_code w (hm w hw), hp⟩
  · rintro acc s' ⟨L, sto1, e, hl, hL, rfl, t1⟩
    exact ⟨by simp [rngN], L, sto1, by rw [e], hl, hL, rfl, t1⟩
theorem words_ok {n : Nat} {x0 x1 x3 x5 x7 x8 x9 x10 x11 : Slot} {sto : List Co} (t : Tp n sto) :
    wp (fun fl s' => fl = .nx ∧ ∃ y8 y9 y10 sto', s' = ⟨[x0, x1, .val (.cel n), x3, .emp, x5, .emp, x7, y8, y9, y10, x11, .emp], sto'⟩) (seqS (setS 9 (callE f__law_words [] (consA (nameV 2) nilA)))
  (seqS (setS 10 (frzE (listF (nameO 9))))
  (seqS (setS 8 (callE f__law_strange [] (consA (nameV 9) nilA)))
  (ifS (orT (truT (bin2 neD (callE f_strange_word [] (consA (nameV 9) nilA)) (nameO 8))) (orT (truT (bin2 neD (callE f_strange_word [] (consA (biE tupleO (consA (nameO 9) nilA)) nilA)) (nameO 8))) (truT (bin2 neD (nameO 9) (nameO 10))))) (retS (constE (.bl false))) nextS))) ⟨[x0, x1, .val (.cel n), x3, .emp, x5, .emp, x7, x8, x9, x10, x11, .emp], sto⟩) := by
  refine wp_seq ?_
  simp
  refine wp_mono (words_wp t) ?_
  rintro d s' ⟨ws, sto1, rfl, hw, rfl, t1⟩
  have hc : ∀ w ∈ ws, codeOk w = true := fun w h => menuB_code w (hw.2 w h)
  have hn : ws.contains (sW 14) = false := by
    rw [Bool.eq_false_iff]
    intro h
    exact menuB_last (hw.2 _ (List.contains_iff_mem.mp h))
  have e1 : ∀ s, callF f__law_strange [.lst (ws.map D.str)] s = .ok (.str (freeW ws)) s := fun s => e_law_strange (.inl rfl) hc hn
  have e2 : ∀ s, callF f_strange_word [.lst (ws.map D.str)] s = .ok (.str (freeW ws)) s := fun s => e_strange (.inl rfl) hc hn
  have e3 : ∀ s, callF f_strange_word [.tup (ws.map D.str)] s = .ok (.str (freeW ws)) s := fun s => e_strange (.inr rfl) hc hn
  have e4 : ∀ s, neD (.lst (ws.map D.str)) (.lst (ws.map D.str)) s = .ok (.bl false) s := fun s => by
    unfold neD
    rw [eqB_strs hc hc, decide_eq_true rfl]
    rfl
  simp
  refine cont_nx (wp_seq ?_)
  have el : ∀ st, listF (nameO 9) ⟨[x0, x1, .val (.cel n), x3, .emp, x5, .emp, x7, x8, .val (.lst (ws.map D.str)), x10, x11, .emp], st⟩ = .ok (.L (ws.map D.str)) ⟨[x0, x1, .val (.cel n), x3, .emp, x5, .emp, x7, x8, .val (.lst (ws.map D.str)), x10, x11, .emp], st⟩ := fun _ => rfl
  simp [el]
  refine cont_nx (wp_seq ?_)
  simp [e1]
  refine cont_nx ?_
  simp [e2, e3, e4]
theorem ix_own {env : List Slot} {sto : List Co} {i : Nat} {xs : List D} {k : Int} {y : D} (h : env[i]? = some (.own (.L xs))) (hy : atI xs k = some y) : ixD (.own i) (.int k) ⟨env, sto⟩ = .ok y ⟨env, sto⟩ := by
  show ixSeq (.own i) (.int k) _ = _
  unfold ixSeq
  rw [ct_own h]
  show ixAt (seqOf ⟨env, sto⟩ (.own i)) (.int k) ⟨env, sto⟩ = _
  rw [so_own h, q_ixAt, hy]
theorem l3_ok {ns : List Int} {i : Nat} (hl : ns.length ≤ 63) (hb : ∀ z ∈ ns, Builtin.Int.intBits z ≤ 1048576) (hi : i < 1000) {x2 x3 x5 x7 x8 x9 x10 x11 : Slot} {sto : List Co} :
    wp (fun fl s' => fl = .nx ∧ St ns s') (b_law_l3 ⟨[.val (.scr ns), .val (.int (i : Int)), x2, x3, .emp, x5, .emp, x7, x8, x9, x10, x11, .emp], sto⟩) := by
  unfold b_law_l3
  refine wp_seq ?_
  simp
  refine wp_mono (well_wp hl hb hi) ?_
  rintro d s' ⟨sto1, rfl, rfl, t⟩
  generalize sto.length = n at *
  simp
  refine cont_nx (wp_seq ?_)
  simp only [ownS, wp_bind]
  refine wp_mono (six_ok t) ?_
  rintro c s' ⟨L, sto2, rfl, h6, hL, rfl, t2⟩
  simp
  refine cont_nx (wp_seq ?_)
  obtain ⟨p0, p1, L2, rfl⟩ : ∃ p0 p1 L2, L = p0 :: p1 :: L2 := by
    match L, h6 with
    | p0 :: p1 :: L2, _ => exact ⟨p0, p1, L2, rfl⟩
  have h0 := hL p0 (by simp)
  have h1 := hL p1 (by simp)
  have e0 : ∀ y, ixD (.own 3) (.int 0) ⟨[.val (.scr ns), .val (.int (i : Int)), .val (.cel n), .own (.L ((p0 :: p1 :: L2).map eP)), .emp, x5, .emp, x7, x8, x9, x10, x11, .emp], y⟩ = .ok (eP p0) ⟨[.val (.scr ns), .val (.int (i : Int)), .val (.cel n), .own (.L ((p0 :: p1 :: L2).map eP)), .emp, x5, .emp, x7, x8, x9, x10, x11, .emp], y⟩ := fun y => ix_own rfl at_head
  have e1 : ∀ y, ixD (.own 3) (.int 1) ⟨[.val (.scr ns), .val (.int (i : Int)), .val (.cel n), .own (.L ((p0 :: p1 :: L2).map eP)), .emp, x5, .emp, x7, x8, x9, x10, x11, .emp], y⟩ = .ok (eP p1) ⟨[.val (.scr ns), .val (.int (i : Int)), .val (.cel n), .own (.L ((p0 :: p1 :: L2).map eP)), .emp, x5, .emp, x7, x8, x9, x10, x11, .emp], y⟩ := fun y => ix_own rfl (_root_.L2.atI_nat (j := 1) rfl)
  have e2 : ∀ s, addD (eP p0) (eP p1) s = .ok (eP (p0 ++ p1)) s := fun s => by
    show (if (p0.map D.str).length + (p1.map D.str).length ≤ line then R.ok (D.tup (p0.map D.str ++ p1.map D.str)) s else .bad) = _
    rw [if_pos (by rw [line_eq', List.length_map, List.length_map]; omega), ← List.map_append]
    rfl
  have e3 : ∀ y, kindOk "list" ⟨[.val (.scr ns), .val (.int (i : Int)), .val (.cel n), .own (.L ((p0 :: p1 :: L2).map eP)), .emp, x5, .emp, x7, x8, x9, x10, x11, .emp], y⟩ (.own 3) = true := fun _ => rfl
  have e4 : ∀ y, appendM (.own 3) [eP (p0 ++ p1)] ⟨[.val (.scr ns), .val (.int (i : Int)), .val (.cel n), .own (.L ((p0 :: p1 :: L2).map eP)), .emp, x5, .emp, x7, x8, x9, x10, x11, .emp], y⟩ = .ok .non ⟨[.val (.scr ns), .val (.int (i : Int)), .val (.cel n), .own (.L ((p0 :: p1 :: L2 ++ [p0 ++ p1]).map eP)), .emp, x5, .emp, x7, x8, x9, x10, x11, .emp], y⟩ := fun y => by
    rw [append_own (xs := (p0 :: p1 :: L2).map eP) rfl (by rw [List.length_map]; omega), List.map_append]
    rfl
  simp [e0, e1, e2, e3, e4, -List.map_cons, -List.map_append, -List.cons_append]
  refine cont_nx (wp_seq ?_)
  refine wp_mono (loop_ok (L := p0 :: p1 :: L2 ++ [p0 ++ p1]) ?_ (by rw [List.length_append, h6]; simp)) ?_
  · intro b hb
    rcases List.mem_append.mp hb with hb | hb
    · exact ⟨(hL b hb).1, by have := (hL b hb).2; omega⟩
    · rw [List.mem_singleton.mp hb]
      refine ⟨fun w hw => ?_, by rw [List.length_append]; have := h0.2; have := h1.2; omega⟩
      rcases List.mem_append.mp hw with hw | hw
      · exact h0.1 w hw
      · exact h1.1 w hw
  rintro fl s' ⟨rfl, y5, y7, y8, rfl⟩
  refine cont_nx (wp_mono (words_ok t2) ?_)
  rintro fl s' ⟨rfl, y8, y9, y10, sto', rfl⟩
  exact ⟨rfl, _, _, _, _, _, _, _, _, _, _, rfl⟩
theorem s0_ok {ns : List Int} (hl : ns.length ≤ 63) (hb : ∀ k ∈ ns, Builtin.Int.intBits k ≤ 1048576) : wp (fun fl s => fl = .nx ∧ St ns s) (b_law_s0 ⟨[.val (.scr ns), .emp, .emp, .emp, .emp, .emp, .emp, .emp, .emp, .emp, .emp, .emp, .emp], []⟩) := by
  simp [b_law_s0, least_ints, max2_ints]
  have sm : ∀ i : Int, 0 ≤ i → i ≤ 1000 → small62 i = true := fun i h0 h1 => small_of (by omega) (by omega)
  rw [sm _ (by split <;> split <;> omega) (by split <;> split <;> omega)]
  simp
  refine wp_for_rng (fun _ s => St ns s) (by rw [fuel_eq']; split <;> split <;> omega) ⟨_, _, _, _, _, _, _, _, _, _, rfl⟩ ?_ (fun s h => ⟨rfl, h⟩)
  rintro i s hi ⟨x1, x2, x3, x5, x7, x8, x9, x10, x11, sto, rfl⟩
  have hi : i < 1000 := by
    refine Nat.lt_of_lt_of_le hi ?_
    split <;> split <;> omega
  simp
  refine wp_mono (l3_ok hl hb hi) ?_
  rintro fl s2 ⟨rfl, h2⟩
  exact h2
def lineW : D := .lst ((List.replicate 12 0).mapIdx (fun i _ => D.str (List.replicate (i + 1) 97)) ++ (List.range 25).map fun i => D.str [97, 97, 97, 97, 97, 97, 97, 97, 97, 97, 97, 98 + i])
theorem s1_ok {x0 x1 x2 x3 x5 x7 x8 x9 x10 x11 : Slot} {sto : List Co} : b_law_s1 ⟨[x0, x1, x2, x3, .emp, x5, .emp, x7, x8, x9, x10, x11, .emp], sto⟩ = .ok .nx ⟨[x0, x1, x2, x3, .emp, x5, .emp, x7, x8, x9, x10, .val lineW, .emp], sto⟩ := by kernel_rfl
theorem s2_ok {x0 x1 x2 x3 x5 x7 x8 x9 x10 : Slot} {sto : List Co} : b_law_s2 ⟨[x0, x1, x2, x3, .emp, x5, .emp, x7, x8, x9, x10, .val lineW, .emp], sto⟩ = .ok .nx ⟨[x0, x1, x2, x3, .emp, x5, .emp, x7, x8, x9, x10, .val lineW, .emp], sto⟩ := by kernel_rfl
theorem s3_ok {x0 x1 x2 x3 x5 x7 x8 x9 x10 : Slot} {sto : List Co} : b_law_s3 ⟨[x0, x1, x2, x3, .emp, x5, .emp, x7, x8, x9, x10, .val lineW, .emp], sto⟩ = .ok (.rt (.bl true)) ⟨[x0, x1, x2, x3, .emp, x5, .emp, x7, x8, x9, x10, .val lineW, .emp], sto⟩ := by kernel_rfl
theorem fin (ns : List Int) (hl : ns.length ≤ 63) (hb : ∀ k ∈ ns, Builtin.Int.intBits k ≤ 1048576) : ∃ s, f_law [.scr ns] [] = .ok (.bl true) s := by
  have h : wp (fun d _ => d = .bl true) (f_law [.scr ns] []) := by
    refine wp_runF rfl ?_
    unfold b_law b_law_t0
    refine wp_seq (wp_mono (s0_ok hl hb) ?_)
    rintro fl s ⟨rfl, x1, x2, x3, x5, x7, x8, x9, x10, x11, sto, rfl⟩
    refine cont_nx ?_
    unfold b_law_t1
    refine wp_seq (wp_of_eq s1_ok (cont_nx ?_))
    unfold b_law_t2
    refine wp_seq (wp_of_eq s2_ok (cont_nx ?_))
    unfold b_law_t3
    exact wp_of_eq s3_ok rfl
  obtain ⟨d, s, e, rfl⟩ := wp_iff.mp h
  exact ⟨s, e⟩
end K02


theorem PySem.Challenge.cw_leadsever_k02_order_and_beginnings_holds : PySem.Challenge.rw_leadsever_k02_order_and_beginnings.Holds :=
  K02.holds K02.fin
