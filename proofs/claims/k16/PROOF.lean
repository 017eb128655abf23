import PyProof.Rows.All
import Wide.All
import OpenK.AllK
import Wide.FinOn
import HandS.ForMost
import HandS.ForExc
import HandS.Deep
import HandS.More
import KE.KDictKeyed
import HandS.Lambda
import HandS.TupAny
import HandS.IsInst
import HandS.Wide
import HandS.Style
import HandS.CallSlots
import HandS.Comp
import HandS.Iter
import HandS.Zip
import KE.GoesNew
import HandS.Dict
import HandS.DictComp
import HandS.NoneIn
import HandS.TupSets
import KE.SortData
import KE.DataMinMax
import HandS.Conv
import HandS.Text
import HandS.Defaults
import HandS.WordsExc
import HandS.Head0
import HandS.Head1
import HandS.Head2
import HandS.HeadEnd
import HandS.HeadHook1
import HandS.HeadHook2
import HandS.HeadHook3
import HandS.HeadHook4
import HandS.Nested
import HandS.SortKw
import KE.DataMinKey
import KE.LtData
import HandS.TupMul
import PyProof.StrOps2
import KE.DataCmp
import HandS.ExcInit
import HandS.ExcOwn
import HandS.ExcField
import HandS.ExcIs
import KE.DataFind
import KE.KExcIs
import HandS.HeadWalk
import PySem.Challenge.RW_shadeseats_k16_known_floors
set_option Elab.async false
set_option linter.all false
set_option maxRecDepth 100000
set_option maxHeartbeats 1000000
namespace PF
open PySem PySem.Spec PyProof.Rows L2

/-- plain data -/
inductive D where
  | non | bl (b : Bool) | int (i : Int) | str (x : Str)
  | tup (xs : List D) | lst (xs : List D) | dct (t : Bool) (ks vs : List D) | ins (c : Nat) (ns : List Str) (vs : List D)
  /-- the script -/
  | scr (ns : List Int)
  /-- a built-in type -/
  | ty (n : String)
  /-- the exception that a suite handles: its class, its fields -/
  | exn (c : Nat) (ns : List Str) (vs : List D)
  deriving Inhabited
/-- data, or a tree of mutable things that one slot alone holds -/
inductive O where
  | val (d : D) | lst (os : List O) | dct (t : Bool) (ks : List D) (os : List O) | ins (c : Nat) (ns : List Str) (os : List O)
  deriving Inhabited

/-- where the classes stand; the tables of code objects, each with the name that its code objects have -/
structure Ca where
  at_ : Nat → Addr
  tb : List (Addr × Str) := []
  /-- the exception at hand: where, its dict, its class -/
  xa : Option (Addr × Option Addr × Nat) := none
instance : CoeFun Ca fun _ => Nat → Addr := ⟨Ca.at_⟩
/-- what the text's top has left -/
structure Gv where
  P : Program
  w : World
  K : PySem.W.Frag
  ca : Ca

mutual
def toNk : D → Option NestedKey
  | .non => some .none
  | .int i => some (.num i)
  | .str x => some (.text x)
  | .tup xs => (toNks xs).map .tup
  | _ => none
def toNks : List D → Option (List NestedKey)
  | [] => some []
  | x :: xs => match toNk x, toNks xs with
    | some k, some ks => some (k :: ks)
    | _, _ => none
end

/-- at a: a dict whose keys are (nested) tuples -/
def dTN (g : Gv) (a : Addr) (xs : List (NestedKey × Addr × V)) : HO := .ext fun h => xs.length ≤ sizeLine ∧ (a == sysModules) = false ∧
  ∃ ys : List (NestedKey × Addr × Value), Paired (fun (x : NestedKey × Addr × V) (y : NestedKey × Addr × Value) => x.1 = y.1 ∧ x.2.1 = y.2.1 ∧ RelV x.2.2 y.2.2) xs ys ∧
    ∃ o es ep, h.get? a = some o ∧ o.ExactDict ∧ o.data = .dict es ep ∧ es.toList = ys.map (entryOfKey (nestedKind g.P g.w)) ∧ (ys.map (·.1)).Nodup

def keyD : Key → D
  | .inl i => .int i
  | .inr x => .str x

/-- a dict of the text's top, by all of its (text) keys -/
def KDc (g : Gv) (a : Addr) (ks : List D) (us : List V) : Prop := ∃ es n, ∃ zs : List (Str × V), KDict g.K g.w a es n ∧ ks = zs.map (fun z => .str z.1) ∧ us = zs.map (fun z => z.2) ∧ ∀ x : Str, ∃ r, PySem.W.nsIn g.K a x = some r ∧ RelO (zs.lookup x) r

abbrev Le (F H : Hp) : Prop := ∀ a o, F a = some o → H a = some o
theorem Le.refl (F : Hp) : Le F F := fun _ _ h => h
theorem Le.trans {F H H' : Hp} (h1 : Le F H) (h2 : Le H H') : Le F H' := fun a o h => h2 a o (h1 a o h)

section
variable (g : Gv)
mutual
/-- the value v is the data d, by what stands in F -/
def RepV (F : Hp) : D → V → Prop
  | .non, v => v = .non
  | .bl b, v => v = .bl b
  | .int i, v => v = .int i
  | .str x, v => v = .str x
  | .tup ds, v => ∃ a vs, v = .ref a ∧ SqT g.K F a vs ∧ RepVs F ds vs
  | .lst ds, v => ∃ a vs, v = .ref a ∧ F a = some (.lst vs) ∧ RepVs F ds vs
  | .scr ns, v => ∃ a, v = .ref a ∧ SqL g.K F a (ns.map V.int)
  | .ty n, v => v = .ty n
  | .exn c ns ds, v => ∃ x, g.ca.xa = some x ∧ v = .ref x.1 ∧ x.2.2 = c ∧ ((ns = [] ∧ x.2.1 = none) ∨ ∃ dd us, x.2.1 = some dd ∧ F dd = some (.xd (ns.zip us)) ∧ ns.length = us.length ∧ RepVs F ds us)
  | .dct false ks ds, v => ∃ a us, v = .ref a ∧ ((∃ kk : List Key, ks = kk.map keyD ∧ kk.Nodup ∧ kk.length = us.length ∧ F a = some (.dK (kk.zip us))) ∨ KDc g a ks us) ∧ RepVs F ds us
  | .dct true ks ds, v => ∃ a, ∃ xs : List (NestedKey × Addr × V), v = .ref a ∧ RepVs F ks (xs.map fun x => .ref x.2.1) ∧ ks.map toNk = xs.map (fun x => some x.1) ∧ (∀ x ∈ xs, x.1.depth ≤ 8) ∧ F a = some (dTN g a xs) ∧ RepVs F ds (xs.map fun x => x.2.2)
  | .ins c ns ds, v => ∃ a dx vs, v = .ref a ∧ ns.length = vs.length ∧ F a = some (.ins (g.ca c) dx (ns.zip vs)) ∧ RepVs F ds vs
def RepVs (F : Hp) : List D → List V → Prop
  | [], vs => vs = []
  | d :: ds, vs => ∃ v r, vs = v :: r ∧ RepV F d v ∧ RepVs F ds r
end

theorem Rd.mono {F F' : Hp} {a : Addr} {u : HO} (h : Le F F') (r : Rd F a u) : Rd F' a u := by
  rcases r with r | ⟨o, r⟩
  · exact .inl (h _ _ r)
  · exact .inr ⟨o, h _ _ r⟩
theorem SqT.mono {K : PySem.W.Frag} {F F' : Hp} {a : Addr} {vs : List V} (h : Le F F') (r : SqT K F a vs) : SqT K F' a vs := by
  rcases r with r | r
  · exact .inl (Rd.mono h r)
  · exact .inr r
theorem SqL.mono {K : PySem.W.Frag} {F F' : Hp} {a : Addr} {vs : List V} (h : Le F F') (r : SqL K F a vs) : SqL K F' a vs := by
  rcases r with r | r
  · exact .inl (Rd.mono h r)
  · exact .inr r

mutual
theorem RepV.mono {F F' : Hp} (h : Le F F') : ∀ (d : D) (v : V), RepV g F d v → RepV g F' d v
  | .non, v, r => by simpa [RepV] using r
  | .bl b, v, r => by simpa [RepV] using r
  | .int i, v, r => by simpa [RepV] using r
  | .str x, v, r => by simpa [RepV] using r
  | .tup ds, v, r => by
    rw [RepV] at r ⊢
    obtain ⟨a, vs, e, q, rs⟩ := r
    exact ⟨a, vs, e, SqT.mono h q, RepVs.mono h ds vs rs⟩
  | .lst ds, v, r => by
    rw [RepV] at r ⊢
    obtain ⟨a, vs, e, q, rs⟩ := r
    exact ⟨a, vs, e, h _ _ q, RepVs.mono h ds vs rs⟩
  | .scr ns, v, r => by
    rw [RepV] at r ⊢
    obtain ⟨a, e, q⟩ := r
    exact ⟨a, e, SqL.mono h q⟩
  | .ty n, v, r => by rw [RepV] at r ⊢; exact r
  | .exn c ns ds, v, r => by
    rw [RepV] at r ⊢
    obtain ⟨x, e1, e2, e3, q⟩ := r
    refine ⟨x, e1, e2, e3, ?_⟩
    rcases q with q | ⟨dd, us, h1, h2, h3, rs⟩
    · exact .inl q
    · exact .inr ⟨dd, us, h1, h _ _ h2, h3, RepVs.mono h ds us rs⟩
  | .dct false ks ds, v, r => by
    rw [RepV] at r ⊢
    obtain ⟨a, us, e, q, rs⟩ := r
    refine ⟨a, us, e, ?_, RepVs.mono h ds us rs⟩
    rcases q with ⟨kk, e1, e2, e3, e4⟩ | q
    · exact .inl ⟨kk, e1, e2, e3, h _ _ e4⟩
    · exact .inr q
  | .dct true ks ds, v, r => by
    rw [RepV] at r ⊢
    obtain ⟨a, xs, e, e2, e3, e4, e5, rs⟩ := r
    exact ⟨a, xs, e, RepVs.mono h ks _ e2, e3, e4, h _ _ e5, RepVs.mono h ds _ rs⟩
  | .ins c ns ds, v, r => by
    rw [RepV] at r ⊢
    obtain ⟨a, dx, vs, e, l, q, rs⟩ := r
    exact ⟨a, dx, vs, e, l, h _ _ q, RepVs.mono h ds vs rs⟩
theorem RepVs.mono {F F' : Hp} (h : Le F F') : ∀ (ds : List D) (vs : List V), RepVs g F ds vs → RepVs g F' ds vs
  | [], vs, r => by rw [RepVs] at r ⊢; exact r
  | d :: ds, vs, r => by
    rw [RepVs] at r ⊢
    obtain ⟨v, w, e, r1, r2⟩ := r
    exact ⟨v, w, e, RepV.mono h d v r1, RepVs.mono h ds w r2⟩
end

/-- S is split into two -/
structure Spl (S S1 S2 : Addr → Prop) : Prop where
  l : ∀ a, S1 a → S a
  r : ∀ a, S2 a → S a
  d : ∀ a, S1 a → S2 a → False

mutual
/-- v is o: what is owned stands in H at addresses of S, the rest in F -/
def RepO (H F : Hp) : O → V → (Addr → Prop) → Prop
  | .val d, v, _ => RepV g F d v
  | .lst os, v, S => ∃ a vs, v = .ref a ∧ S a ∧ H a = some (.lst vs) ∧ RepOs H F os vs (fun b => S b ∧ b ≠ a)
  | .dct false ks os, v, S => ∃ a us, v = .ref a ∧ S a ∧ (∃ kk : List Key, ks = kk.map keyD ∧ kk.Nodup ∧ kk.length = us.length ∧ H a = some (.dK (kk.zip us))) ∧ RepOs H F os us (fun b => S b ∧ b ≠ a)
  | .dct true ks os, v, S => ∃ a, ∃ xs : List (NestedKey × Addr × V), v = .ref a ∧ S a ∧ RepVs g F ks (xs.map fun x => .ref x.2.1) ∧ ks.map toNk = xs.map (fun x => some x.1) ∧ (∀ x ∈ xs, x.1.depth ≤ 8) ∧ H a = some (dTN g a xs) ∧ RepOs H F os (xs.map fun x => x.2.2) (fun b => S b ∧ b ≠ a)
  | .ins c ns os, v, S => ∃ a dx vs, v = .ref a ∧ S a ∧ ns.length = vs.length ∧ H a = some (.ins (g.ca c) dx (ns.zip vs)) ∧ RepOs H F os vs (fun b => S b ∧ b ≠ a)
def RepOs (H F : Hp) : List O → List V → (Addr → Prop) → Prop
  | [], vs, _ => vs = []
  | o :: os, vs, S => ∃ v r S1 S2, vs = v :: r ∧ Spl S S1 S2 ∧ RepO H F o v S1 ∧ RepOs H F os r S2
end

mutual
theorem RepO.frame {H F H' F' : Hp} (hF : Le F F') : ∀ (o : O) (v : V) (S S' : Addr → Prop), (∀ a, S a → S' a) → (∀ a, S a → H' a = H a) → RepO g H F o v S → RepO g H' F' o v S'
  | .val d, v, S, S', hs, hh, r => by
    rw [RepO] at r ⊢
    exact RepV.mono g hF d v r
  | .lst os, v, S, S', hs, hh, r => by
    rw [RepO] at r ⊢
    obtain ⟨a, vs, e, sa, q, rs⟩ := r
    exact ⟨a, vs, e, hs a sa, by rw [hh a sa]; exact q, RepOs.frame hF os vs _ _ (fun b hb => ⟨hs b hb.1, hb.2⟩) (fun b hb => hh b hb.1) rs⟩
  | .dct false ks os, v, S, S', hs, hh, r => by
    rw [RepO] at r ⊢
    obtain ⟨a, us, e, sa, ⟨kk, e1, e2, e3, e4⟩, rs⟩ := r
    exact ⟨a, us, e, hs a sa, ⟨kk, e1, e2, e3, by rw [hh a sa]; exact e4⟩, RepOs.frame hF os us _ _ (fun b hb => ⟨hs b hb.1, hb.2⟩) (fun b hb => hh b hb.1) rs⟩
  | .dct true ks os, v, S, S', hs, hh, r => by
    rw [RepO] at r ⊢
    obtain ⟨a, xs, e, sa, e2, e3, e4, e5, rs⟩ := r
    exact ⟨a, xs, e, hs a sa, RepVs.mono g hF ks _ e2, e3, e4, by rw [hh a sa]; exact e5, RepOs.frame hF os _ _ _ (fun b hb => ⟨hs b hb.1, hb.2⟩) (fun b hb => hh b hb.1) rs⟩
  | .ins c ns os, v, S, S', hs, hh, r => by
    rw [RepO] at r ⊢
    obtain ⟨a, dx, vs, e, sa, l, q, rs⟩ := r
    exact ⟨a, dx, vs, e, hs a sa, l, by rw [hh a sa]; exact q, RepOs.frame hF os vs _ _ (fun b hb => ⟨hs b hb.1, hb.2⟩) (fun b hb => hh b hb.1) rs⟩
theorem RepOs.frame {H F H' F' : Hp} (hF : Le F F') : ∀ (os : List O) (vs : List V) (S S' : Addr → Prop), (∀ a, S a → S' a) → (∀ a, S a → H' a = H a) → RepOs g H F os vs S → RepOs g H' F' os vs S'
  | [], vs, S, S', hs, hh, r => by rw [RepOs] at r ⊢; exact r
  | o :: os, vs, S, S', hs, hh, r => by
    rw [RepOs] at r ⊢
    obtain ⟨v, w, S1, S2, e, sp, r1, r2⟩ := r
    exact ⟨v, w, S1, S2, e, ⟨fun a h => hs a (sp.l a h), fun a h => hs a (sp.r a h), sp.d⟩, RepO.frame hF o v S1 S1 (fun _ h => h) (fun a h => hh a (sp.l a h)) r1, RepOs.frame hF os w S2 S2 (fun _ h => h) (fun a h => hh a (sp.r a h)) r2⟩
end
theorem RepO.sup {H F : Hp} {o : O} {v : V} {S S' : Addr → Prop} (hs : ∀ a, S a → S' a) (r : RepO g H F o v S) : RepO g H F o v S' := RepO.frame g (Le.refl F) o v S S' hs (fun _ _ => rfl) r
theorem RepOs.sup {H F : Hp} {os : List O} {vs : List V} {S S' : Addr → Prop} (hs : ∀ a, S a → S' a) (r : RepOs g H F os vs S) : RepOs g H F os vs S' := RepOs.frame g (Le.refl F) os vs S S' hs (fun _ _ => rfl) r

/-! what is owned is given away for good -/
mutual
def fz : O → D
  | .val d => d
  | .lst os => .lst (fzs os)
  | .dct t ks os => .dct t ks (fzs os)
  | .ins c ns os => .ins c ns (fzs os)
def fzs : List O → List D
  | [] => []
  | o :: os => fz o :: fzs os
end
mutual
theorem RepO.fz {H F F' : Hp} (hF : Le F F') : ∀ (o : O) (v : V) (S : Addr → Prop), (∀ a u, S a → H a = some u → F' a = some u) → RepO g H F o v S → RepV g F' (fz o) v
  | .val d, v, S, hs, r => by
    rw [RepO] at r
    rw [PF.fz]
    exact RepV.mono g hF d v r
  | .lst os, v, S, hs, r => by
    rw [RepO] at r
    rw [PF.fz, RepV]
    obtain ⟨a, vs, e, sa, q, rs⟩ := r
    exact ⟨a, vs, e, hs a _ sa q, RepOs.fz hF os vs _ (fun b u hb hu => hs b u hb.1 hu) rs⟩
  | .dct false ks os, v, S, hs, r => by
    rw [RepO] at r
    rw [PF.fz, RepV]
    obtain ⟨a, us, e, sa, ⟨kk, e1, e2, e3, e4⟩, rs⟩ := r
    exact ⟨a, us, e, .inl ⟨kk, e1, e2, e3, hs a _ sa e4⟩, RepOs.fz hF os us _ (fun b u hb hu => hs b u hb.1 hu) rs⟩
  | .dct true ks os, v, S, hs, r => by
    rw [RepO] at r
    rw [PF.fz, RepV]
    obtain ⟨a, xs, e, sa, e2, e3, e4, e5, rs⟩ := r
    exact ⟨a, xs, e, RepVs.mono g hF ks _ e2, e3, e4, hs a _ sa e5, RepOs.fz hF os _ _ (fun b u hb hu => hs b u hb.1 hu) rs⟩
  | .ins c ns os, v, S, hs, r => by
    rw [RepO] at r
    rw [PF.fz, RepV]
    obtain ⟨a, dx, vs, e, sa, l, q, rs⟩ := r
    exact ⟨a, dx, vs, e, l, hs a _ sa q, RepOs.fz hF os vs _ (fun b u hb hu => hs b u hb.1 hu) rs⟩
theorem RepOs.fz {H F F' : Hp} (hF : Le F F') : ∀ (os : List O) (vs : List V) (S : Addr → Prop), (∀ a u, S a → H a = some u → F' a = some u) → RepOs g H F os vs S → RepVs g F' (fzs os) vs
  | [], vs, S, hs, r => by rw [RepOs] at r; rw [PF.fzs, RepVs]; exact r
  | o :: os, vs, S, hs, r => by
    rw [RepOs] at r
    rw [PF.fzs, RepVs]
    obtain ⟨v, w, S1, S2, e, sp, r1, r2⟩ := r
    exact ⟨v, w, e, RepO.fz hF o v S1 (fun b u hb hu => hs b u (sp.l b hb) hu) r1, RepOs.fz hF os w S2 (fun b u hb hu => hs b u (sp.r b hb) hu) r2⟩
end

/-! ### a list of owned things, beside what is frozen and what must stay -/
def RepL (H F : Hp) : List (V × O) → (Addr → Prop) → Prop
  | [], _ => True
  | p :: L, S => ∃ S1 S2, Spl S S1 S2 ∧ RepO g H F p.2 p.1 S1 ∧ RepL H F L S2
theorem RepL.frame {H F H' F' : Hp} (hF : Le F F') : ∀ (L : List (V × O)) (S S' : Addr → Prop), (∀ a, S a → S' a) → (∀ a, S a → H' a = H a) → RepL g H F L S → RepL g H' F' L S'
  | [], _, _, _, _, _ => trivial
  | p :: L, S, S', hs, hh, ⟨S1, S2, sp, r1, r2⟩ => ⟨S1, S2, ⟨fun a h => hs a (sp.l a h), fun a h => hs a (sp.r a h), sp.d⟩, RepO.frame g hF _ _ S1 S1 (fun _ h => h) (fun a h => hh a (sp.l a h)) r1,
      RepL.frame hF L S2 S2 (fun _ h => h) (fun a h => hh a (sp.r a h)) r2⟩
theorem RepL.perm {H F : Hp} {L L' : List (V × O)} (p : L.Perm L') : ∀ {S : Addr → Prop}, RepL g H F L S → RepL g H F L' S := by
  induction p with
  | nil => intro S h; exact h
  | cons x p ih => intro S ⟨S1, S2, sp, r1, r2⟩; exact ⟨S1, S2, sp, r1, ih r2⟩
  | swap x y l =>
    intro S ⟨S1, S2, sp, r1, S3, S4, sp2, r3, r4⟩
    refine ⟨S3, fun a => S1 a ∨ S4 a, ⟨fun a h => sp.r a (sp2.l a h), fun a h => h.elim (sp.l a) (fun h => sp.r a (sp2.r a h)), fun a h1 h2 => h2.elim (fun h2 => sp.d a h2 (sp2.l a h1)) (fun h2 => sp2.d a h1 h2)⟩, r3,
      S1, S4, ⟨fun a h => .inl h, fun a h => .inr h, fun a h1 h2 => sp.d a h1 (sp2.r a h2)⟩, r1, r4⟩
  | trans _ _ ih1 ih2 => intro S h; exact ih2 (ih1 h)
theorem RepL.split {H F : Hp} : ∀ (A B : List (V × O)) (S : Addr → Prop), RepL g H F (A ++ B) S → ∃ S1 S2, Spl S S1 S2 ∧ RepL g H F A S1 ∧ RepL g H F B S2
  | [], B, S, h => ⟨fun _ => False, S, ⟨fun _ h => h.elim, fun _ h => h, fun _ h _ => h⟩, trivial, h⟩
  | p :: A, B, S, ⟨S1, S2, sp, r1, r2⟩ => by
    obtain ⟨S3, S4, sp2, r3, r4⟩ := RepL.split A B S2 r2
    exact ⟨fun a => S1 a ∨ S3 a, S4, ⟨fun a h => h.elim (sp.l a) (fun h => sp.r a (sp2.l a h)), fun a h => sp.r a (sp2.r a h), fun a h1 h2 => h1.elim (fun h1 => sp.d a h1 (sp2.r a h2)) (fun h1 => sp2.d a h1 h2)⟩,
      ⟨S1, S3, ⟨fun a h => .inl h, fun a h => .inr h, fun a h1 h2 => sp.d a h1 (sp2.l a h2)⟩, r1, r3⟩, r4⟩
theorem RepL.join {H F : Hp} : ∀ (A B : List (V × O)) (S S1 S2 : Addr → Prop), Spl S S1 S2 → RepL g H F A S1 → RepL g H F B S2 → RepL g H F (A ++ B) S
  | [], B, S, S1, S2, sp, _, h => RepL.frame g (Le.refl F) B S2 S (fun a h => sp.r a h) (fun _ _ => rfl) h
  | p :: A, B, S, S1, S2, sp, ⟨S3, S4, sp2, r1, r2⟩, h => by
    refine ⟨S3, fun a => S4 a ∨ S2 a, ⟨fun a h => sp.l a (sp2.l a h), fun a h => h.elim (fun h => sp.l a (sp2.r a h)) (sp.r a), fun a h1 h2 => h2.elim (sp2.d a h1) (fun h2 => sp.d a (sp2.l a h1) h2)⟩, r1, ?_⟩
    exact RepL.join A B _ S4 S2 ⟨fun a h => .inl h, fun a h => .inr h, fun a h1 h2 => sp.d a (sp2.r a h1) h2⟩ r2 h

/-- the tables of code objects: each stands by itself; its code objects are frozen -/
def TbOk (H F Gx : Hp) (S : Addr → Prop) : Prop := ∀ p ∈ g.ca.tb, F p.1 = none ∧ Gx p.1 = none ∧ ¬ S p.1 ∧ ∃ ps : Array Value, H p.1 = some (.tbl ps) ∧ TriplesOk ps.toList ∧ ∀ (pos : Pos) (cv : Value), codeAmong pos ps.toList = some cv → ∃ c, cv = .ref c ∧ F c = some (LamX.CodeO c p.2)
section
variable {g}
theorem TbOk.sub {H F Gx : Hp} {S S' : Addr → Prop} (t : TbOk g H F Gx S) (h : ∀ a, S' a → S a) : TbOk g H F Gx S' := fun p hp => by
  obtain ⟨a, b, c, d⟩ := t p hp
  exact ⟨a, b, fun q => c (h _ q), d⟩
theorem TbOk.fresh {H F Gx : Hp} {S : Addr → Prop} {q : Addr} {u : HO} (t : TbOk g H F Gx S) (hq : H q = none) : TbOk g (upd H q u) F Gx (fun a => a = q ∨ S a) := fun p hp => by
  obtain ⟨a, b, c, ps, d, e, f⟩ := t p hp
  have ne : p.1 ≠ q := fun z => by rw [z, hq] at d; cases d
  exact ⟨a, b, fun z => z.elim ne c, ps, by rw [upd_ne ne]; exact d, e, f⟩
theorem TbOk.freshF {H F Gx : Hp} {S : Addr → Prop} {q : Addr} {u : HO} (t : TbOk g H F Gx S) (hq : H q = none) (hF : F q = none) : TbOk g (upd H q u) (upd F q u) Gx S := fun p hp => by
  obtain ⟨a, b, c, ps, d, e, f⟩ := t p hp
  have ne : p.1 ≠ q := fun z => by rw [z, hq] at d; cases d
  refine ⟨by rw [upd_ne ne]; exact a, b, c, ps, by rw [upd_ne ne]; exact d, e, fun pos cv hc => ?_⟩
  obtain ⟨k, e1, e2⟩ := f pos cv hc
  exact ⟨k, e1, by rw [upd_ne (fun z => by rw [z, hF] at e2; cases e2)]; exact e2⟩
theorem TbOk.wr {H F Gx : Hp} {S : Addr → Prop} {q : Addr} {u : HO} (t : TbOk g H F Gx S) (hq : S q) : TbOk g (upd H q u) F Gx S := fun p hp => by
  obtain ⟨a, b, c, ps, d, e, f⟩ := t p hp
  have ne : p.1 ≠ q := fun z => c (by rw [z]; exact hq)
  exact ⟨a, b, c, ps, by rw [upd_ne ne]; exact d, e, f⟩
end
/-- H: the heap; F: what never changes, and may be reached; Gx: what must stay as it is, and isn't reached; L: what is owned -/
structure Good (H F Gx : Hp) (L : List (V × O)) : Prop where
  ex : ∃ S : Addr → Prop, TbOk g H F Gx S ∧ Le F H ∧ Le Gx H ∧ (∀ a o, Gx a = some o → F a = none) ∧ (∀ a, S a → F a = none ∧ Gx a = none ∧ ∃ o, H a = some o) ∧ RepL g H F L S
variable {g}
theorem Good.leF {H F Gx : Hp} {L : List (V × O)} (h : Good g H F Gx L) : Le F H := let ⟨_, _, h1, _⟩ := h.ex; h1
theorem Good.leG {H F Gx : Hp} {L : List (V × O)} (h : Good g H F Gx L) : Le Gx H := let ⟨_, _, _, h1, _⟩ := h.ex; h1
theorem Good.perm {H F Gx : Hp} {L L' : List (V × O)} (h : Good g H F Gx L) (p : L.Perm L') : Good g H F Gx L' := by
  obtain ⟨S, t, a, b, c, d, e⟩ := h.ex
  exact ⟨S, t, a, b, c, d, RepL.perm g p e⟩
theorem Good.dropL {H F Gx : Hp} {A B : List (V × O)} (h : Good g H F Gx (A ++ B)) : Good g H F Gx B := by
  obtain ⟨S, t, a, b, c, d, e⟩ := h.ex
  obtain ⟨S1, S2, sp, r1, r2⟩ := RepL.split g A B S e
  exact ⟨S2, t.sub sp.r, a, b, c, fun a h => d a (sp.r a h), r2⟩
theorem Good.drop1 {H F Gx : Hp} {p : V × O} {B : List (V × O)} (h : Good g H F Gx (p :: B)) : Good g H F Gx B := Good.dropL (A := [p]) h
theorem Good.dropR {H F Gx : Hp} {A B : List (V × O)} (h : Good g H F Gx (A ++ B)) : Good g H F Gx A := Good.dropL (h.perm List.perm_append_comm)
/-- A alone, B laid aside -/
theorem Good.aside {H F Gx : Hp} {A B : List (V × O)} (h : Good g H F Gx (A ++ B)) : ∃ Gx', Good g H F Gx' A ∧ ∀ H' F' A', Le F F' → Good g H' F' Gx' A' → Good g H' F' Gx (A' ++ B) := by
  classical
  obtain ⟨S, hT, hF, hG, hFG, hS, hL⟩ := h.ex
  obtain ⟨SA, SB, sp, rA, rB⟩ := RepL.split g A B S hL
  refine ⟨fun a => if SB a then H a else Gx a, ⟨SA, fun p hp => ?_, hF, fun a o e => ?_, fun a o e => ?_, fun a h => ?_, rA⟩, fun H' F' A' hFF h' => ?_⟩
  · obtain ⟨t1, t2, t3, t4⟩ := hT p hp
    exact ⟨t1, by show (if SB p.1 then H p.1 else Gx p.1) = none; rw [if_neg (fun z => t3 (sp.r _ z))]; exact t2, fun z => t3 (sp.l _ z), t4⟩
  · by_cases hb : SB a
    · simpa [hb] using e
    · simp only [hb, if_false] at e; exact hG a o e
  · by_cases hb : SB a
    · exact (hS a (sp.r a hb)).1
    · simp only [hb, if_false] at e; exact hFG a o e
  · have nb : ¬ SB a := fun q => sp.d a h q
    simp only [nb, if_false]
    exact hS a (sp.l a h)
  · obtain ⟨S', hT', hF', hG', hFG', hS', hL'⟩ := h'.ex
    have key : ∀ a, SB a → H' a = H a ∧ F' a = none := fun a hb => by
      obtain ⟨_, _, o, ho⟩ := hS a (sp.r a hb)
      have q : (if SB a then H a else Gx a) = some o := by rw [if_pos hb]; exact ho
      exact ⟨(hG' a o q).trans ho.symm, hFG' a o q⟩
    have nb : ∀ a, S' a → ¬ SB a := fun a h hb => by
      obtain ⟨_, _, o, ho⟩ := hS a (sp.r a hb)
      have q := (hS' a h).2.1
      rw [if_pos hb, ho] at q
      cases q
    refine ⟨fun a => S' a ∨ SB a, fun p hp => ?_, hF', fun a o e => ?_, fun a o e => ?_, fun a h => ?_, ?_⟩
    · obtain ⟨t1, t2, t3, t4⟩ := hT' p hp
      obtain ⟨u1, u2, u3, u4⟩ := hT p hp
      exact ⟨t1, u2, fun z => z.elim t3 fun z => u3 (sp.r _ z), t4⟩
    · by_cases hb : SB a
      · rw [(hS a (sp.r a hb)).2.1] at e; cases e
      · exact hG' a o (by show (if SB a then H a else Gx a) = some o; rw [if_neg hb]; exact e)
    · by_cases hb : SB a
      · exact (key a hb).2
      · exact hFG' a o (by rw [if_neg hb]; exact e)
    · rcases h with h | h
      · obtain ⟨x, y, z⟩ := hS' a h
        rw [if_neg (nb a h)] at y
        exact ⟨x, y, z⟩
      · obtain ⟨x, y, z⟩ := hS a (sp.r a h)
        obtain ⟨k1, k2⟩ := key a h
        exact ⟨k2, y, by rw [k1]; exact z⟩
    · exact RepL.join g A' B _ S' SB ⟨fun a h => .inl h, fun a h => .inr h, fun a h1 h2 => nb a h1 h2⟩ hL' (RepL.frame g hFF B SB SB (fun _ h => h) (fun a h => (key a h).1) rB)
/-- an owned thing is given away -/
theorem Good.freeze {H F Gx : Hp} {v : V} {o : O} {B : List (V × O)} (h : Good g H F Gx ((v, o) :: B)) : ∃ F', Le F F' ∧ Good g H F' Gx ((v, .val (fz o)) :: B) := by
  classical
  obtain ⟨S, hT, hF, hG, hFG, hS, S1, S2, sp, r1, r2⟩ := h.ex
  have le : Le F (fun a => if S1 a then H a else F a) := fun a u e => by
    have n1 : ¬ S1 a := fun q => by
      rw [(hS a (sp.l a q)).1] at e; cases e
    show (if S1 a then H a else F a) = some u
    rw [if_neg n1]; exact e
  refine ⟨fun a => if S1 a then H a else F a, le, ⟨S2, fun p hp => ?_, fun a u e => ?_, hG, fun a u e => ?_, fun a h => ?_, fun _ => False, S2, ⟨fun _ h => h.elim, fun _ h => h, fun _ h _ => h⟩, ?_, ?_⟩⟩
  · obtain ⟨t1, t2, t3, ps, t4, t5, t6⟩ := hT p hp
    refine ⟨by show (if S1 p.1 then H p.1 else F p.1) = none; rw [if_neg (fun z => t3 (sp.l _ z))]; exact t1, t2, fun z => t3 (sp.r _ z), ps, t4, t5, fun pos cv hc => ?_⟩
    obtain ⟨c, e1, e2⟩ := t6 pos cv hc
    exact ⟨c, e1, le _ _ e2⟩
  · by_cases q : S1 a
    · simpa [q] using e
    · simp only [q, if_false] at e; exact hF a u e
  · have n1 : ¬ S1 a := fun q => by
      rw [(hS a (sp.l a q)).2.1] at e; cases e
    show (if S1 a then H a else F a) = none
    rw [if_neg n1]
    exact hFG a u e
  · have n1 : ¬ S1 a := fun q => sp.d a q h
    rw [if_neg n1]
    exact hS a (sp.r a h)
  · rw [RepO]
    exact RepO.fz g le o v S1 (fun a u hs hu => by rw [if_pos hs]; exact hu) r1
  · exact RepL.frame g le B S2 S2 (fun _ h => h) (fun _ _ => rfl) r2
/-- a look at an owned thing -/
theorem Good.view {H F Gx : Hp} {v : V} {o : O} {B : List (V × O)} (h : Good g H F Gx ((v, o) :: B)) : ∃ S, RepO g H F o v S := by
  obtain ⟨S, _, _, _, _, _, S1, S2, sp, r1, r2⟩ := h.ex
  exact ⟨S1, r1⟩
theorem Good.val {H F Gx : Hp} {v : V} {d : D} {B : List (V × O)} (h : Good g H F Gx ((v, .val d) :: B)) : RepV g F d v := by
  obtain ⟨S, r⟩ := h.view
  rw [RepO] at r
  exact r
theorem Good.ofVal {H F Gx : Hp} {v : V} {d : D} {B : List (V × O)} (h : Good g H F Gx B) (r : RepV g F d v) : Good g H F Gx ((v, .val d) :: B) := by
  obtain ⟨S, t, a, b, c, d, e⟩ := h.ex
  exact ⟨S, t, a, b, c, d, fun _ => False, S, ⟨fun _ h => h.elim, fun _ h => h, fun _ h _ => h⟩, by rw [RepO]; exact r, e⟩
/-- a new frozen thing -/
theorem Good.newF {H F Gx : Hp} {p : Addr} {u : HO} {B : List (V × O)} (h : Good g H F Gx B) (hp : H p = none) : Le F (upd F p u) ∧ Good g (upd H p u) (upd F p u) Gx B := by
  obtain ⟨S, hT, hF, hG, hFG, hS, hL⟩ := h.ex
  have nF : F p = none := by
    cases q : F p with
    | none => rfl
    | some o => rw [hF p o q] at hp; cases hp
  have nG : Gx p = none := by
    cases q : Gx p with
    | none => rfl
    | some o => rw [hG p o q] at hp; cases hp
  have nS : ∀ a, S a → a ≠ p := fun a h e => by
    subst e
    obtain ⟨_, _, o, ho⟩ := hS a h
    rw [ho] at hp; cases hp
  have le : Le F (upd F p u) := fun a o e => by
    rw [upd_ne (fun q => by subst q; rw [nF] at e; cases e)]; exact e
  refine ⟨le, ⟨S, hT.freshF hp nF, fun a o e => ?_, fun a o e => ?_, fun a o e => ?_, fun a h => ?_, RepL.frame g le B S S (fun _ h => h) (fun a h => upd_ne (nS a h)) hL⟩⟩
  · by_cases q : a = p
    · subst q; rw [upd_same] at e ⊢; exact e
    · rw [upd_ne q] at e ⊢; exact hF a o e
  · rw [upd_ne (fun q => by subst q; rw [nG] at e; cases e)]; exact hG a o e
  · rw [upd_ne (fun q => by subst q; rw [nG] at e; cases e)]; exact hFG a o e
  · rw [upd_ne (nS a h), upd_ne (nS a h)]; exact hS a h
end
end PF

set_option Elab.async false
set_option linter.all false
set_option maxRecDepth 100000
set_option maxHeartbeats 1000000
namespace PF
open PySem PySem.Spec PyProof.Rows L2

/-! ### runs over slots -/
abbrev Sls := List (Option O)
/-- an exception: its class, its fields -/
structure Exn where
  cls : Nat
  ns : List Str
  vs : List D
inductive Rz (α : Type) where
  | ok (a : α) | ex (e : Exn)
def M (α : Type) : Type := Sls → Option (Rz α × Sls)
namespace M
variable {α β : Type}
def pure (a : α) : M α := fun ρ => some (.ok a, ρ)
def bind (m : M α) (f : α → M β) : M β := fun ρ => match m ρ with
  | none => none
  | some (.ex e, ρ') => some (.ex e, ρ')
  | some (.ok a, ρ') => f a ρ'
def of (o : Option α) : M α := fun ρ => match o with
  | none => none
  | some a => some (.ok a, ρ)
def stuck : M α := fun _ => none
def raise (e : Exn) : M α := fun ρ => some (.ex e, ρ)
def map (f : α → β) (m : M α) : M β := m.bind fun a => pure (f a)
theorem bind_assoc {γ : Type} (m : M α) (f : α → M β) (k : β → M γ) : (m.bind f).bind k = m.bind fun a => (f a).bind k := by
  funext ρ
  unfold bind
  cases m ρ with
  | none => rfl
  | some p =>
    obtain ⟨r, ρ'⟩ := p
    cases r <;> rfl
theorem pure_bind (a : α) (f : α → M β) : (pure a).bind f = f a := rfl
theorem bind_pure (m : M α) : m.bind pure = m := by
  funext ρ
  unfold bind
  cases m ρ with
  | none => rfl
  | some p =>
    obtain ⟨r, ρ'⟩ := p
    cases r <;> rfl
theorem raise_bind (e : Exn) (f : α → M β) : (raise e : M α).bind f = raise e := rfl
theorem stuck_bind (f : α → M β) : (stuck : M α).bind f = stuck := rfl
end M
instance : Monad M where
  pure := M.pure
  bind := M.bind

def slL : L2.St → Sls → List (V × O)
  | some v :: σ, some o :: ρ => (v, o) :: slL σ ρ
  | _ :: σ, _ :: ρ => slL σ ρ
  | _, _ => []
def SlW (σ : L2.St) (ρ : Sls) : Prop := ∀ (i : Nat) (o : O), ρ[i]? = some (some o) → ∃ v : V, σ[i]? = some (some v)

theorem slL_none : ∀ (σ : L2.St) (ρ : Sls) (s : Option V), slL (s :: σ) (none :: ρ) = slL σ ρ
  | _, _, none => rfl
  | _, _, some _ => rfl
theorem slL_drop : ∀ (σ : L2.St) (ρ : Sls) (s : Option O), slL (none :: σ) (s :: ρ) = slL σ ρ
  | _, _, none => rfl
  | _, _, some _ => rfl
theorem slL_get : ∀ {σ : L2.St} {ρ : Sls} {i : Nat} {v : V} {o : O}, σ[i]? = some (some v) → ρ[i]? = some (some o) → (slL σ ρ).Perm ((v, o) :: slL σ (ρ.set i none))
  | [], _, i, v, o, h, _ => by simp at h
  | _ :: _, [], i, v, o, _, h => by simp at h
  | s :: σ, r :: ρ, 0, v, o, h1, h2 => by
    simp at h1 h2
    subst h1 h2
    rw [List.set_cons_zero, slL_none]
    exact .refl _
  | s :: σ, r :: ρ, i + 1, v, o, h1, h2 => by
    have ih := slL_get (σ := σ) (ρ := ρ) (i := i) (v := v) (o := o) (by simpa using h1) (by simpa using h2)
    rw [List.set_cons_succ]
    cases s with
    | none => rw [slL_drop, slL_drop]; exact ih
    | some w =>
      cases r with
      | none => rw [slL_none, slL_none]; exact ih
      | some p => exact (ih.cons (w, p)).trans (.swap _ _ _)
theorem slL_hole : ∀ (σ : L2.St) (ρ : Sls) (i : Nat) (s : Option V), slL (σ.set i s) (ρ.set i none) = slL σ (ρ.set i none)
  | [], _, _, _ => by simp
  | _ :: _, [], i, s => by cases i <;> simp [slL]
  | t :: σ, r :: ρ, 0, s => by rw [List.set_cons_zero, List.set_cons_zero, slL_none, slL_none]
  | t :: σ, r :: ρ, i + 1, s => by
    have ih := slL_hole σ ρ i s
    rw [List.set_cons_succ, List.set_cons_succ]
    cases t with
    | none => rw [slL_drop, slL_drop, ih]
    | some w =>
      cases r with
      | none => rw [slL_none, slL_none, ih]
      | some p => show (w, p) :: slL (σ.set i s) (ρ.set i none) = (w, p) :: slL σ (ρ.set i none); rw [ih]
theorem slL_set {σ : L2.St} {ρ : Sls} {i : Nat} (v : V) (o : O) (h1 : i < σ.length) (h2 : i < ρ.length) : (slL (σ.set i (some v)) (ρ.set i (some o))).Perm ((v, o) :: slL σ (ρ.set i none)) := by
  have h := slL_get (σ := σ.set i (some v)) (ρ := ρ.set i (some o)) (i := i) (v := v) (o := o) (by simp [h1]) (by simp [h2])
  rw [List.set_set, slL_hole] at h
  exact h
theorem SlW.set {σ : L2.St} {ρ : Sls} {i : Nat} {v : V} {o : O} (w : SlW σ ρ) (h : i < σ.length) : SlW (σ.set i (some v)) (ρ.set i (some o)) := fun j p e => by
  by_cases hj : i = j
  · subst hj; exact ⟨v, by simp [h]⟩
  · rw [List.getElem?_set_ne hj] at e ⊢; exact w j p e
theorem SlW.hole {σ : L2.St} {ρ : Sls} {i : Nat} (w : SlW σ ρ) : SlW σ (ρ.set i none) := fun j p e => by
  by_cases hj : i = j
  · subst hj
    by_cases hl : i < ρ.length
    · simp [hl] at e
    · simp [hl] at e
  · rw [List.getElem?_set_ne hj] at e; exact w j p e
theorem SlW.put {σ : L2.St} {ρ : Sls} {i : Nat} {v : V} {o : O} (w : SlW σ ρ) (h : σ[i]? = some (some v)) : SlW σ (ρ.set i (some o)) := fun j p e => by
  by_cases hj : i = j
  · subst hj; exact ⟨v, h⟩
  · rw [List.getElem?_set_ne hj] at e; exact w j p e

/-- the slots and L are as told -/
structure StG (g : Gv) (H F Gx : Hp) (σ : L2.St) (ρ : Sls) (L : List (V × O)) : Prop where
  wf : SlW σ ρ
  len : σ.length = ρ.length
  gd : Good g H F Gx (L ++ slL σ ρ)
section
variable {g : Gv} {H F Gx : Hp} {σ : L2.St} {ρ : Sls} {L : List (V × O)} {i : Nat} {o : O} {v : V}
theorem StG.lt (h : StG g H F Gx σ ρ L) (e : ρ[i]? = some (some o)) : i < ρ.length := (List.getElem?_eq_some_iff.mp e).1
theorem StG.take (h : StG g H F Gx σ ρ L) (e : ρ[i]? = some (some o)) : ∃ v, σ[i]? = some (some v) ∧ StG g H F Gx σ (ρ.set i none) ((v, o) :: L) := by
  obtain ⟨v, hv⟩ := h.wf i o e
  refine ⟨v, hv, h.wf.hole, by simpa using h.len, h.gd.perm ?_⟩
  exact ((slL_get hv e).append_left L).trans List.perm_middle
theorem StG.putback (h : StG g H F Gx σ ρ ((v, o) :: L)) (hv : σ[i]? = some (some v)) (e : ρ[i]? = some none) : StG g H F Gx σ (ρ.set i (some o)) L := by
  refine ⟨h.wf.put hv, by simpa using h.len, h.gd.perm ?_⟩
  have hl : i < ρ.length := (List.getElem?_eq_some_iff.mp e).1
  have h1 : (ρ.set i (some o)).set i none = ρ := by
    rw [List.set_set]
    refine List.ext_getElem? fun j => ?_
    by_cases hj : i = j
    · subst hj; rw [List.getElem?_set_self hl, e]
    · rw [List.getElem?_set_ne hj]
  have p := slL_get (σ := σ) (ρ := ρ.set i (some o)) (i := i) (v := v) (o := o) hv (by simp [hl])
  rw [h1] at p
  exact (List.perm_middle.symm.trans (p.symm.append_left L))
theorem StG.store (h : StG g H F Gx σ ρ ((v, o) :: L)) (hl : i < ρ.length) : StG g H F Gx (σ.set i (some v)) (ρ.set i (some o)) L := by
  have hs : i < σ.length := by rw [h.len]; exact hl
  refine ⟨h.wf.set hs, by simpa using h.len, ?_⟩
  have g1 : Good g H F Gx ((v, o) :: (L ++ slL σ (ρ.set i none))) := by
    cases e : ρ[i]? with
    | none => exact absurd (List.getElem?_eq_none_iff.mp e) (by omega)
    | some r =>
      cases r with
      | none =>
        have h1 : ρ.set i none = ρ := by
          refine List.ext_getElem? fun j => ?_
          by_cases hj : i = j
          · subst hj; rw [List.getElem?_set_self hl, e]
          · rw [List.getElem?_set_ne hj]
        rw [h1]; exact h.gd
      | some p =>
        obtain ⟨w, _, q⟩ := h.take e
        have q2 : Good g H F Gx ((w, p) :: ((v, o) :: L ++ slL σ (ρ.set i none))) := q.gd
        exact q2.drop1
  exact g1.perm (List.perm_middle.symm.trans ((slL_set v o hs hl).symm.append_left L))
theorem StG.drop1 {p : V × O} (h : StG g H F Gx σ ρ (p :: L)) : StG g H F Gx σ ρ L := ⟨h.wf, h.len, h.gd.drop1⟩
theorem StG.perm {L' : List (V × O)} (h : StG g H F Gx σ ρ L) (p : L.Perm L') : StG g H F Gx σ ρ L' := ⟨h.wf, h.len, h.gd.perm (p.append_right _)⟩
theorem StG.ofVal {d : D} (h : StG g H F Gx σ ρ L) (r : RepV g F d v) : StG g H F Gx σ ρ ((v, .val d) :: L) := ⟨h.wf, h.len, h.gd.ofVal r⟩
theorem StG.peek (h : StG g H F Gx σ ρ L) (e : ρ[i]? = some (some o)) : ∃ v S, σ[i]? = some (some v) ∧ RepO g H F o v S := by
  obtain ⟨v, hv, q⟩ := h.take e
  obtain ⟨S, r⟩ := q.gd.view
  exact ⟨v, S, hv, r⟩
theorem StG.freeze (h : StG g H F Gx σ ρ ((v, o) :: L)) : ∃ F', Le F F' ∧ StG g H F' Gx σ ρ ((v, .val (fz o)) :: L) := by
  obtain ⟨F', le, q⟩ := Good.freeze (B := L ++ slL σ ρ) h.gd
  exact ⟨F', le, h.wf, h.len, q⟩
theorem StG.freezeAt (h : StG g H F Gx σ ρ L) (e : ρ[i]? = some (some o)) : ∃ F' v, Le F F' ∧ σ[i]? = some (some v) ∧ StG g H F' Gx σ (ρ.set i (some (.val (fz o)))) ((v, .val (fz o)) :: L) := by
  obtain ⟨v, hv, q⟩ := h.take e
  obtain ⟨F', le, q2⟩ := q.freeze
  have hl := h.lt e
  have q3 := q2.putback (i := i) hv (by simp [hl])
  rw [List.set_set] at q3
  exact ⟨F', v, le, hv, q3.ofVal (Good.val q2.gd)⟩
theorem StG.newF {p : Addr} {u : HO} (h : StG g H F Gx σ ρ L) (hp : H p = none) : Le F (upd F p u) ∧ StG g (upd H p u) (upd F p u) Gx σ ρ L := by
  obtain ⟨a, b⟩ := h.gd.newF (u := u) hp
  exact ⟨a, h.wf, h.len, b⟩
/-- L laid aside while something runs that keeps the slots' values -/
theorem StG.aside (h : StG g H F Gx σ ρ L) : ∃ Gx', StG g H F Gx' σ ρ [] ∧ ∀ H' F' ρ' L', Le F F' → StG g H' F' Gx' σ ρ' L' → StG g H' F' Gx σ ρ' (L ++ L') := by
  obtain ⟨Gx', q, back⟩ := Good.aside (A := slL σ ρ) (B := L) (h.gd.perm List.perm_append_comm)
  refine ⟨Gx', ⟨h.wf, h.len, q⟩, fun H' F' ρ' L' le q' => ⟨q'.wf, q'.len, ?_⟩⟩
  have z := back H' F' _ le q'.gd
  refine z.perm ?_
  rw [List.append_assoc, List.append_assoc]
  exact (List.perm_append_comm.append_left L').trans (by rw [← List.append_assoc, ← List.append_assoc]; exact List.perm_append_comm.append_right _)
end

/-- how an exception lies -/
def XAt (g : Gv) (F : Hp) (e : Exn) (d : Option Addr) : Prop := (e.ns = [] ∧ d = none) ∨ ∃ dd us, d = some dd ∧ F dd = some (.xd (e.ns.zip us)) ∧ e.ns.length = us.length ∧ RepVs g F e.vs us

/-! ### the readings -/
section
variable (g : Gv) (W : WX)
/-- what a run asks; R: what is wanted of its value, by the heap, the frozen part, the slots behind -/
def Rn {α : Type} (f : M α) (σ : L2.St) (H F Gx : Hp) (ρ : Sls) (R : α → Hp → Hp → Sls → Prop) : Prop := match f ρ with
  | none => False
  | some (.ok a, ρ') => ∀ H' F', Le F F' → R a H' F' ρ'
  | some (.ex e, ρ') => ∀ H' F' d, Le F F' → StG g H' F' Gx σ ρ' [] → XAt g F' e d → W (.ref (g.ca e.cls)) d σ H'
/-- an expression whose value is handed on -/
def T (f : M O) : TE := fun σ H Q => ∃ F Gx ρ, StG g H F Gx σ ρ [] ∧ Rn g W f σ H F Gx ρ fun o H' F' ρ' => ∀ v, StG g H' F' Gx σ ρ' [(v, o)] → Q v H'
/-- one that is looked at -/
def TR (f : M O) : TE := fun σ H Q => ∃ F Gx ρ, StG g H F Gx σ ρ [] ∧ Rn g W f σ H F Gx ρ fun o H' F' ρ' => ∀ v S, StG g H' F' Gx σ ρ' [] → RepO g H' F' o v S → Q v H'
/-- a test -/
def Tt (f : M Bool) : TT := fun σ H Q => ∃ F Gx ρ, StG g H F Gx σ ρ [] ∧ Rn g W f σ H F Gx ρ fun b H' F' ρ' => StG g H' F' Gx σ ρ' [] → Q b H'
/-- arguments that are handed on -/
def TL (f : M (List O)) : TA := fun σ H Q => ∃ F Gx ρ, StG g H F Gx σ ρ [] ∧ Rn g W f σ H F Gx ρ fun os H' F' ρ' => ∀ vs, vs.length = os.length → StG g H' F' Gx σ ρ' (vs.zip os) → Q vs H'
end
section
variable {g : Gv} {W : WX} {X : Cx} {e : Expr} {α β : Type}
theorem PE.imp {t t' : TE} (h : PE X e t) (i : ∀ σ H Q, t' σ H Q → t σ H Q) : PE X e t' := ⟨fun pins s σ H Q I q => h.run pins s σ H Q I (i σ H Q q)⟩
theorem PT.imp {t t' : TT} (h : PT X e t) (i : ∀ σ H Q, t' σ H Q → t σ H Q) : PT X e t' := ⟨fun pins s σ H Q I q => h.run pins s σ H Q I (i σ H Q q)⟩
theorem PW.imp {t t' : TT} (h : PW X e t) (i : ∀ σ H Q, t' σ H Q → t σ H Q) : PW X e t' := ⟨fun wh pins s σ H Q I q => h.run wh pins s σ H Q I (i σ H Q q)⟩
theorem PA.imp {es : List Expr} {t t' : TA} (h : PA X es t) (i : ∀ σ H Q, t' σ H Q → t σ H Q) : PA X es t' := ⟨fun po pins s σ H Q I q => h.run po pins s σ H Q I (i σ H Q q)⟩
theorem Rn.mono {f : M α} {σ : L2.St} {H F Gx : Hp} {ρ : Sls} {R R' : α → Hp → Hp → Sls → Prop} (h : Rn g W f σ H F Gx ρ R) (i : ∀ a H' F' ρ', Le F F' → R a H' F' ρ' → R' a H' F' ρ') : Rn g W f σ H F Gx ρ R' := by
  unfold Rn at h ⊢
  split <;> rename_i q <;> rw [q] at h
  · exact h
  · exact fun H' F' le => i _ _ _ _ le (h H' F' le)
  · exact h
theorem Rn.ok {f : M α} {σ : L2.St} {H F Gx : Hp} {ρ ρ' : Sls} {R : α → Hp → Hp → Sls → Prop} {a : α} (h : Rn g W f σ H F Gx ρ R) (e : f ρ = some (.ok a, ρ')) : ∀ H' F', Le F F' → R a H' F' ρ' := by
  unfold Rn at h; rw [e] at h; exact h
theorem Rn.run {f : M α} {σ : L2.St} {H F Gx : Hp} {ρ : Sls} {R : α → Hp → Hp → Sls → Prop} (h : Rn g W f σ H F Gx ρ R) : ∃ r ρ', f ρ = some (r, ρ') := by
  unfold Rn at h
  cases q : f ρ with
  | none => rw [q] at h; exact h.elim
  | some p => exact ⟨p.1, p.2, rfl⟩
/-- a run behind a run -/
theorem Rn.bind {f : M α} {k : α → M β} {σ : L2.St} {H F Gx : Hp} {ρ : Sls} {R : β → Hp → Hp → Sls → Prop} (h : Rn g W (f.bind k) σ H F Gx ρ R) :
    Rn g W f σ H F Gx ρ fun a H' F' ρ' => Rn g W (k a) σ H' F' Gx ρ' R := by
  unfold Rn M.bind at *
  cases q : f ρ with
  | none => rw [q] at h; exact h
  | some p =>
    obtain ⟨r, ρ'⟩ := p
    rw [q] at h
    cases r with
    | ex e => exact h
    | ok a =>
      intro H' F' le
      show match k a ρ' with | none => False | some (.ok a, ρ') => _ | some (.ex e, ρ') => _
      have h : match k a ρ' with | none => False | some (.ok a, ρ') => ∀ H' F', Le F F' → R a H' F' ρ' | some (.ex e, ρ') => ∀ H' F' d, Le F F' → StG g H' F' Gx σ ρ' [] → XAt g F' e d → W (.ref (g.ca e.cls)) d σ H' := h
      split <;> rename_i q2 <;> rw [q2] at h
      · exact h
      · exact fun H2 F2 le2 => h H2 F2 (le.trans le2)
      · exact fun H2 F2 d le2 => h H2 F2 d (le.trans le2)
/-- what must stay may be more, if it is given back -/
theorem Rn.aside {f : M α} {σ : L2.St} {H F Gx Gx' : Hp} {ρ : Sls} {R : α → Hp → Hp → Sls → Prop} (h : Rn g W f σ H F Gx ρ R) (back : ∀ H' F' ρ', Le F F' → StG g H' F' Gx' σ ρ' [] → StG g H' F' Gx σ ρ' []) : Rn g W f σ H F Gx' ρ R := by
  unfold Rn at h ⊢
  split <;> rename_i q <;> rw [q] at h
  · exact h
  · exact h
  · exact fun H' F' d le st x => h H' F' d le (back H' F' _ le st) x
/-- a run by its value -/
theorem Rn.of {σ : L2.St} {H F Gx : Hp} {ρ : Sls} {R : α → Hp → Hp → Sls → Prop} {o : Option α} (h : Rn g W (M.of o) σ H F Gx ρ R) : ∃ a, o = some a ∧ ∀ H' F', Le F F' → R a H' F' ρ := by
  unfold Rn M.of at h
  cases o with
  | none => exact h.elim
  | some a => exact ⟨a, rfl, h⟩
theorem Rn.pure {σ : L2.St} {H F Gx : Hp} {ρ : Sls} {R : α → Hp → Hp → Sls → Prop} {a : α} (h : Rn g W (M.pure a) σ H F Gx ρ R) : ∀ H' F', Le F F' → R a H' F' ρ := h
/-- handed on, so looked at -/
theorem T.look {f : M O} {σ : L2.St} {H : Hp} {Q : VK} (h : TR g W f σ H Q) : T g W f σ H Q := by
  obtain ⟨F, Gx, ρ, st, r⟩ := h
  refine ⟨F, Gx, ρ, st, r.mono fun o H' F' ρ' le q v st' => ?_⟩
  obtain ⟨S, rv⟩ := Good.view (B := slL σ ρ') st'.gd
  exact q v S st'.drop1 rv
theorem e_look {f : M O} (h : PE X e (T g W f)) : PE X e (TR g W f) := PE.imp h fun _ _ _ => T.look
end
end PF

set_option Elab.async false
set_option linter.all false
set_option maxRecDepth 100000
set_option maxHeartbeats 1000000
namespace PF
open PySem PySem.Spec PyProof.Rows L2

/-- the view of a body's context -/
abbrev gv (X : Cx) (ca : Ca) : Gv := ⟨X.prog, X.w, X.K, ca⟩
def lim : Nat := 10000000
theorem lim_le {n : Nat} (h : n ≤ lim) : n ≤ sizeLine := by rw [sizeLine_eq]; unfold lim at h; omega
theorem lim_lt {n : Nat} (h : n ≤ lim) : n < sizeLine := by rw [sizeLine_eq]; unfold lim at h; omega

/-! ### what is made -/
section
variable {g : Gv} {H F Gx : Hp} {σ : L2.St} {ρ : Sls} {res : O} {Q : VK}
def Yd (g : Gv) (H F Gx : Hp) (σ : L2.St) (ρ : Sls) (res : O) (Q : VK) : Prop := ∀ v H' F', Le F F' → StG g H' F' Gx σ ρ [(v, res)] → Q v H'
theorem Yd.val {d : D} {v : V} (y : Yd g H F Gx σ ρ (.val d) Q) (st : StG g H F Gx σ ρ []) (r : RepV g F d v) : Q v H := y v H F (Le.refl F) (st.ofVal r)
theorem Yd.tup {ds : List D} {vs : List V} (y : Yd g H F Gx σ ρ (.val (.tup ds)) Q) (st : StG g H F Gx σ ρ []) (r : RepVs g F ds vs) : ∀ p, H p = none → Q (.ref p) (upd H p (.tup vs)) := fun p hp => by
  obtain ⟨le, st2⟩ := st.newF (u := .tup vs) hp
  refine y _ _ _ le (st2.ofVal ?_)
  rw [RepV]
  exact ⟨p, vs, rfl, SqT.of upd_same, RepVs.mono g le _ _ r⟩
theorem RepVs.length {g : Gv} {F : Hp} : ∀ {ds : List D} {vs : List V}, RepVs g F ds vs → vs.length = ds.length
  | [], _, h => by rw [RepVs] at h; rw [h]; rfl
  | d :: ds, _, h => by
    rw [RepVs] at h
    obtain ⟨v, r, rfl, _, h⟩ := h
    rw [List.length_cons, List.length_cons, RepVs.length h]
theorem RepVs.os {g : Gv} {H F : Hp} : ∀ {ds : List D} {vs : List V}, RepVs g F ds vs → ∀ S, RepOs g H F (ds.map O.val) vs S
  | [], _, h => fun S => by rw [RepVs] at h; rw [List.map_nil, RepOs]; exact h
  | d :: ds, _, h => fun S => by
    rw [RepVs] at h
    obtain ⟨v, r, rfl, h1, h2⟩ := h
    rw [List.map_cons, RepOs]
    exact ⟨v, r, fun _ => False, S, rfl, ⟨fun _ h => h.elim, fun _ h => h, fun _ h _ => h⟩, by rw [RepO]; exact h1, RepVs.os h2 S⟩
/-- a new owned thing without owned parts -/
theorem Good.newO {L : List (V × O)} {o : O} {p : Addr} {u : HO} (h : Good g H F Gx L) (hp : H p = none) (r : ∀ S, S p → RepO g (upd H p u) F o (.ref p) S) : Good g (upd H p u) F Gx ((.ref p, o) :: L) := by
  obtain ⟨S, hT, hF, hG, hFG, hS, hL⟩ := h.ex
  have nF : F p = none := by
    cases q : F p with
    | none => rfl
    | some o => rw [hF p o q] at hp; cases hp
  have nG : Gx p = none := by
    cases q : Gx p with
    | none => rfl
    | some o => rw [hG p o q] at hp; cases hp
  have nS : ∀ a, S a → a ≠ p := fun a h e => by
    subst e
    obtain ⟨_, _, o, ho⟩ := hS a h
    rw [ho] at hp; cases hp
  refine ⟨fun a => a = p ∨ S a, hT.fresh hp, fun a o e => ?_, fun a o e => ?_, hFG, fun a h => ?_, fun a => a = p, S, ⟨fun _ h => .inl h, fun _ h => .inr h, fun a h1 h2 => nS a h2 h1⟩, r _ rfl, RepL.frame g (Le.refl F) L S S (fun _ h => h) (fun a h => upd_ne (nS a h)) hL⟩
  · rw [upd_ne (fun q => by subst q; rw [nF] at e; cases e)]; exact hF a o e
  · rw [upd_ne (fun q => by subst q; rw [nG] at e; cases e)]; exact hG a o e
  · rcases h with rfl | h
    · exact ⟨nF, nG, _, upd_same⟩
    · rw [upd_ne (nS a h)]; exact hS a h
theorem Yd.lst {ds : List D} {vs : List V} (y : Yd g H F Gx σ ρ (.lst (ds.map O.val)) Q) (st : StG g H F Gx σ ρ []) (r : RepVs g F ds vs) : ∀ p, H p = none → Q (.ref p) (upd H p (.lst vs)) := fun p hp => by
  refine y _ _ _ (Le.refl F) ⟨st.wf, st.len, Good.newO (L := slL σ ρ) st.gd hp fun S hS => ?_⟩
  rw [RepO]
  exact ⟨p, vs, rfl, hS, upd_same, RepVs.os r _⟩
end

/-! ### views -/
/-- the items that are told of a list -/
def valsO : List O → Option (List D)
  | [] => some []
  | .val d :: os => (valsO os).map (d :: ·)
  | _ :: _ => none
def O.dsL : O → Option (List D)
  | .val (.lst ds) => some ds
  | .lst os => valsO os
  | _ => none
def O.dsT : O → Option (List D)
  | .val (.tup ds) => some ds
  | _ => none
section
variable {g : Gv} {H F : Hp}
theorem valsO_ok : ∀ {os : List O} {vs : List V} {S : Addr → Prop} {ds : List D}, RepOs g H F os vs S → valsO os = some ds → RepVs g F ds vs
  | [], vs, S, ds, r, e => by
    rw [valsO] at e; cases e
    rw [RepOs] at r; rw [RepVs]; exact r
  | .val d :: os, vs, S, ds, r, e => by
    rw [RepOs] at r
    obtain ⟨v, w, S1, S2, rfl, sp, r1, r2⟩ := r
    rw [valsO] at e
    obtain ⟨es, e1, rfl⟩ := Option.map_eq_some_iff.mp e
    rw [RepO] at r1
    rw [RepVs]
    exact ⟨v, w, rfl, r1, valsO_ok r2 e1⟩
  | .lst _ :: os, vs, S, ds, r, e => by simp [valsO] at e
  | .dct _ _ _ :: os, vs, S, ds, r, e => by simp [valsO] at e
  | .ins _ _ _ :: os, vs, S, ds, r, e => by simp [valsO] at e
theorem dsL_ok {o : O} {v : V} {S : Addr → Prop} {ds : List D} (le : Le F H) (r : RepO g H F o v S) (e : o.dsL = some ds) : ∃ a vs, v = .ref a ∧ H a = some (.lst vs) ∧ RepVs g F ds vs := by
  cases o with
  | val d =>
    cases d with
    | lst es =>
      rw [O.dsL] at e; cases e
      rw [RepO, RepV] at r
      obtain ⟨a, vs, e, q, rs⟩ := r
      exact ⟨a, vs, e, le _ _ q, rs⟩
    | _ => simp [O.dsL] at e
  | lst os =>
    rw [O.dsL] at e
    rw [RepO] at r
    obtain ⟨a, vs, e1, sa, q, rs⟩ := r
    exact ⟨a, vs, e1, q, valsO_ok rs e⟩
  | _ => simp [O.dsL] at e
theorem dsT_ok {o : O} {v : V} {S : Addr → Prop} {ds : List D} (le : Le F H) (r : RepO g H F o v S) (e : o.dsT = some ds) : ∃ a vs, v = .ref a ∧ SqT g.K H a vs ∧ RepVs g F ds vs := by
  cases o with
  | val d =>
    cases d with
    | tup es =>
      rw [O.dsT] at e; cases e
      rw [RepO, RepV] at r
      obtain ⟨a, vs, e, q, rs⟩ := r
      exact ⟨a, vs, e, SqT.mono le q, rs⟩
    | _ => simp [O.dsT] at e
  | _ => simp [O.dsT] at e
theorem RepVs.app : ∀ {ds es : List D} {vs us : List V}, RepVs g F ds vs → RepVs g F es us → RepVs g F (ds ++ es) (vs ++ us)
  | [], es, vs, us, r, r2 => by rw [RepVs] at r; subst r; exact r2
  | d :: ds, es, vs, us, r, r2 => by
    rw [RepVs] at r
    obtain ⟨v, w, rfl, r1, r3⟩ := r
    rw [List.cons_append, List.cons_append, RepVs]
    exact ⟨v, _, rfl, r1, RepVs.app r3 r2⟩
theorem RepVs.get : ∀ {ds : List D} {vs : List V} {i : Nat} {d : D}, RepVs g F ds vs → ds[i]? = some d → ∃ v, vs[i]? = some v ∧ RepV g F d v
  | [], vs, i, d, r, e => by simp at e
  | x :: ds, vs, 0, d, r, e => by
    rw [RepVs] at r
    obtain ⟨v, w, rfl, r1, r3⟩ := r
    simp at e; subst e
    exact ⟨v, by simp, r1⟩
  | x :: ds, vs, i + 1, d, r, e => by
    rw [RepVs] at r
    obtain ⟨v, w, rfl, r1, r3⟩ := r
    obtain ⟨u, h1, h2⟩ := RepVs.get (i := i) (d := d) r3 (by simpa using e)
    exact ⟨u, by simpa using h1, h2⟩
theorem RepVs.take : ∀ {ds : List D} {vs : List V} (n : Nat), RepVs g F ds vs → RepVs g F (ds.take n) (vs.take n)
  | [], vs, n, r => by rw [RepVs] at r; subst r; simp [RepVs]
  | d :: ds, vs, 0, r => by simp [RepVs]
  | d :: ds, vs, n + 1, r => by
    rw [RepVs] at r
    obtain ⟨v, w, rfl, r1, r3⟩ := r
    rw [List.take_succ_cons, List.take_succ_cons, RepVs]
    exact ⟨v, _, rfl, r1, RepVs.take n r3⟩
theorem RepVs.drop : ∀ {ds : List D} {vs : List V} (n : Nat), RepVs g F ds vs → RepVs g F (ds.drop n) (vs.drop n)
  | [], vs, n, r => by rw [RepVs] at r; subst r; simp [RepVs]
  | d :: ds, vs, 0, r => by simpa using r
  | d :: ds, vs, n + 1, r => by
    rw [RepVs] at r
    obtain ⟨v, w, rfl, r1, r3⟩ := r
    simpa using RepVs.drop n r3
end

/-! ### two operands -/
section
variable (g : Gv) (W : WX)
def T2 (f : M (O × O)) (σ : L2.St) (H : Hp) (R : V → V → Hp → Prop) : Prop := ∃ F Gx ρ, StG g H F Gx σ ρ [] ∧ Rn g W f σ H F Gx ρ fun p H' F' ρ' => ∀ x y S1 S2, StG g H' F' Gx σ ρ' [] → RepO g H' F' p.1 x S1 → RepO g H' F' p.2 y S2 → R x y H'
def Pr (ta tb : TE) (f : M (O × O)) : Prop := ∀ σ H R, T2 g W f σ H R → ta σ H fun x H1 => tb σ H1 fun y H2 => R x y H2
/-- an operand that changes nothing -/
def Sim (tb : TE) (f : M O) : Prop := ∀ σ H F Gx ρ r ρ', StG g H F Gx σ ρ [] → f ρ = some (r, ρ') → ∃ b, r = .ok b ∧ ρ' = ρ ∧ ∃ y S, RepO g H F b y S ∧ ∀ Q : VK, Q y H → tb σ H Q
end
/-- a slot, looked at -/
def pk (i : Nat) : M O := fun ρ => match ρ[i]? with
  | some (some o) => some (.ok o, ρ)
  | _ => none
/-- a slot, handed on -/
def rd (i : Nat) : M O := fun ρ => match ρ[i]? with
  | some (some (.val d)) => some (.ok (.val d), ρ)
  | some (some o) => some (.ok (.val (fz o)), ρ.set i (some (.val (fz o))))
  | _ => none
/-- a slot's thing is moved out -/
def mv (i : Nat) : M O := fun ρ => match ρ[i]? with
  | some (some o) => some (.ok o, ρ.set i none)
  | _ => none
def seq2 (fa fb : M O) : M (O × O) := fa.bind fun a => fb.bind fun b => M.pure (a, b)
def seqP (i : Nat) (fb : M O) : M (O × O) := (pk i).bind fun _ => fb.bind fun b => (pk i).bind fun a => M.pure (a, b)
section
variable {g : Gv} {W : WX} {X : Cx} {ta tb : TE} {fa fb : M O}
theorem pk_some {i : Nat} {ρ ρ' : Sls} {r : Rz O} (h : pk i ρ = some (r, ρ')) : ∃ o, ρ[i]? = some (some o) ∧ r = .ok o ∧ ρ' = ρ := by
  unfold pk at h
  split at h
  · rename_i o q; cases h; exact ⟨o, q, rfl, rfl⟩
  · cases h
theorem Rn.pk {β : Type} {i : Nat} {k : O → M β} {σ : L2.St} {H F Gx : Hp} {ρ : Sls} {R : β → Hp → Hp → Sls → Prop} (h : Rn g W ((PF.pk i).bind k) σ H F Gx ρ R) : ∃ o, ρ[i]? = some (some o) ∧ Rn g W (k o) σ H F Gx ρ R := by
  obtain ⟨r, ρ', e⟩ := h.run
  cases q : PF.pk i ρ with
  | none => unfold M.bind at e; rw [q] at e; cases e
  | some p =>
    obtain ⟨o, h1, h2, h3⟩ := pk_some (r := p.1) (ρ' := p.2) q
    refine ⟨o, h1, ?_⟩
    have h' := h.bind.ok (a := o) (ρ' := ρ) (by rw [q, ← h2, ← h3]) H F (Le.refl F)
    exact h'
theorem pr_tt : Pr g W (T g W fa) (TR g W fb) (seq2 fa fb) := by
  rintro σ H R ⟨F, Gx, ρ, st, r⟩
  refine ⟨F, Gx, ρ, st, r.bind.mono fun a H1 F1 ρ1 le r1 v st1 => ?_⟩
  obtain ⟨Gx', st1', back⟩ := st1.aside
  refine ⟨F1, Gx', ρ1, st1', (r1.aside fun H' F' ρ' le q => (back H' F' ρ' [] le q).drop1).bind.mono fun b H2 F2 ρ2 le2 r2 y S st2 ry => ?_⟩
  have st3 := back H2 F2 ρ2 [] le2 st2
  obtain ⟨S1, rv⟩ := Good.view (B := [] ++ slL σ ρ2) st3.gd
  exact r2.pure H2 F2 (Le.refl _) v y S1 S st3.drop1 rv ry
theorem pr_pt (i : Nat) : Pr g W (tVar i) (TR g W fb) (seqP i fb) := by
  rintro σ H R ⟨F, Gx, ρ, st, r⟩
  obtain ⟨a0, ha0, r⟩ := r.pk
  obtain ⟨v, hv⟩ := st.wf i a0 ha0
  refine ⟨v, hv, F, Gx, ρ, st, r.bind.mono fun b H1 F1 ρ1 le r1 y S st1 ry => ?_⟩
  obtain ⟨a, ha, r1⟩ := r1.pk
  obtain ⟨v', S', hv', rv⟩ := st1.peek ha
  rw [hv] at hv'; cases hv'
  exact r1.pure H1 F1 (Le.refl _) v y S' S st1 rv ry
theorem pr_ts (h : Sim g tb fb) : Pr g W (TR g W fa) tb (seq2 fa fb) := by
  rintro σ H R ⟨F, Gx, ρ, st, r⟩
  refine ⟨F, Gx, ρ, st, r.bind.mono fun a H1 F1 ρ1 le r1 v S st1 rv => ?_⟩
  obtain ⟨r2, ρ2, e2⟩ := r1.run
  cases q : fb ρ1 with
  | none => unfold M.bind at e2; rw [q] at e2; cases e2
  | some p =>
    obtain ⟨b, hb1, hb2, y, S2, ry, hq⟩ := h σ H1 F1 Gx ρ1 p.1 p.2 st1 q
    refine hq _ ?_
    have r3 := r1.bind.ok (a := b) (ρ' := ρ1) (by rw [q, ← hb1, ← hb2]) H1 F1 (Le.refl F1)
    exact r3.pure H1 F1 (Le.refl _) v y S S2 st1 rv ry
theorem sim_var (i : Nat) : Sim g (tVar i) (PF.pk i) := by
  intro σ H F Gx ρ r ρ' st h
  obtain ⟨o, h1, h2, h3⟩ := pk_some h
  obtain ⟨v, S, hv, rv⟩ := st.peek h1
  exact ⟨o, h2, h3, v, S, rv, fun Q q => ⟨v, hv, q⟩⟩
theorem sim_c {d : D} {v : V} (h : ∀ F, RepV g F d v) : Sim g (tC v) (M.pure (.val d)) := by
  intro σ H F Gx ρ r ρ' st e
  cases e
  exact ⟨.val d, rfl, rfl, v, fun _ => False, by rw [RepO]; exact h F, fun Q q => q⟩
end

/-! ### names, constants -/
section
variable {W : WX} {X : Cx} {ca : Ca} {e : Expr} {ta tb : TE}
theorem t_rd {i : Nat} {g : Gv} {σ : L2.St} {H : Hp} {Q : VK} (h : T g W (rd i) σ H Q) : tVar i σ H Q := by
  obtain ⟨F, Gx, ρ, st, r⟩ := h
  obtain ⟨r1, ρ1, e1⟩ := r.run
  cases q : ρ[i]? with
  | none => unfold rd at e1; rw [q] at e1; cases e1
  | some s =>
    cases s with
    | none => unfold rd at e1; rw [q] at e1; cases e1
    | some o =>
      cases o with
      | val d =>
        obtain ⟨v, S, hv, rv⟩ := st.peek q
        have e2 : rd i ρ = some (.ok (.val d), ρ) := by unfold rd; rw [q]
        rw [RepO] at rv
        exact ⟨v, hv, r.ok e2 H F (Le.refl F) v (st.ofVal rv)⟩
      | lst os =>
        obtain ⟨F', v, le, hv, st'⟩ := st.freezeAt q
        have e2 : rd i ρ = some (.ok (.val (fz (.lst os))), ρ.set i (some (.val (fz (.lst os))))) := by unfold rd; rw [q]
        exact ⟨v, hv, r.ok e2 H F' le v st'⟩
      | dct t ks os =>
        obtain ⟨F', v, le, hv, st'⟩ := st.freezeAt q
        have e2 : rd i ρ = some (.ok (.val (fz (.dct t ks os))), ρ.set i (some (.val (fz (.dct t ks os))))) := by unfold rd; rw [q]
        exact ⟨v, hv, r.ok e2 H F' le v st'⟩
      | ins c ns os =>
        obtain ⟨F', v, le, hv, st'⟩ := st.freezeAt q
        have e2 : rd i ρ = some (.ok (.val (fz (.ins c ns os))), ρ.set i (some (.val (fz (.ins c ns os))))) := by unfold rd; rw [q]
        exact ⟨v, hv, r.ok e2 H F' le v st'⟩
theorem e_rd (i : Nat) {g : Gv} (h : PE X e (tVar i)) : PE X e (T g W (rd i)) := PE.imp h fun _ _ _ => t_rd
theorem e_pk (i : Nat) {g : Gv} (h : PE X e (tVar i)) : PE X e (TR g W (pk i)) := PE.imp h fun σ H Q ⟨F, Gx, ρ, st, r⟩ => by
  obtain ⟨r1, ρ1, e1⟩ := r.run
  obtain ⟨o, h1, h2, h3⟩ := pk_some e1
  obtain ⟨v, S, hv, rv⟩ := st.peek h1
  exact ⟨v, hv, r.ok (a := o) (ρ' := ρ) (by rw [e1, h2, h3]) H F (Le.refl F) v S st rv⟩
theorem e_mv (i : Nat) {g : Gv} (h : PE X e (tVar i)) : PE X e (T g W (mv i)) := PE.imp h fun σ H Q ⟨F, Gx, ρ, st, r⟩ => by
  obtain ⟨r1, ρ1, e1⟩ := r.run
  cases q : ρ[i]? with
  | none => unfold mv at e1; rw [q] at e1; cases e1
  | some s =>
    cases s with
    | none => unfold mv at e1; rw [q] at e1; cases e1
    | some o =>
      obtain ⟨v, hv, st'⟩ := st.take q
      have e2 : mv i ρ = some (.ok o, ρ.set i none) := by unfold mv; rw [q]
      exact ⟨v, hv, r.ok e2 H F (Le.refl F) v st'⟩
/-- a constant: what it is stands everywhere -/
theorem e_c {g : Gv} {d : D} {v : V} (h : PE X e (tC v)) (r : ∀ F, RepV g F d v) : PE X e (T g W (M.pure (.val d))) := PE.imp h fun σ H Q ⟨F, Gx, ρ, st, q⟩ => q.pure H F (Le.refl F) v (st.ofVal (r F))
end
end PF

set_option Elab.async false
set_option linter.all false
set_option maxRecDepth 100000
set_option maxHeartbeats 2000000
namespace PF
open PySem PySem.Spec PyProof.Rows L2

/-! ### == of data -/
mutual
def D.eqv : D → D → Bool
  | .non, .non => true
  | .bl a, .bl b => a == b
  | .bl a, .int j => (if a then 1 else 0) == j
  | .int i, .bl b => i == (if b then 1 else 0)
  | .int i, .int j => i == j
  | .str x, .str y => x == y
  | .lst xs, .lst ys => D.eqvs xs ys
  | .tup xs, .tup ys => D.eqvs xs ys
  | _, _ => false
def D.eqvs : List D → List D → Bool
  | [], [] => true
  | x :: xs, y :: ys => D.eqv x y && D.eqvs xs ys
  | _, _ => false
end
mutual
def toPy : D → PyData
  | .non => .none
  | .bl b => .bool b
  | .int i => .int i
  | .str x => .str x
  | .tup xs => .tuple (toPys xs)
  | .lst xs => .list (toPys xs)
  | _ => .none
def toPys : List D → List PyData
  | [] => []
  | x :: xs => toPy x :: toPys xs
end
/-- data whose == is told: to depth n, no dict, no instance -/
def okD : Nat → D → Bool
  | _, .non => true
  | _, .bl _ => true
  | _, .int _ => true
  | _, .str x => PyData.strOk x
  | n + 1, .tup ds => ds.all (okD n)
  | n + 1, .lst ds => ds.all (okD n)
  | _, _ => false
theorem okD_lst {n : Nat} {ds : List D} : okD n (.lst ds) = true ↔ ∃ m, n = m + 1 ∧ ∀ d ∈ ds, okD m d = true := by
  cases n with
  | zero => simp [okD]
  | succ n => simp [okD]
theorem okD_tup {n : Nat} {ds : List D} : okD n (.tup ds) = true ↔ ∃ m, n = m + 1 ∧ ∀ d ∈ ds, okD m d = true := by
  cases n with
  | zero => simp [okD]
  | succ n => simp [okD]
mutual
theorem okD_lay : ∀ (n : Nat) (d : D), okD n d = true → (toPy d).canLay0 = true ∧ (toPy d).depth ≤ n
  | n, .non, _ => by simp [toPy, PyData.canLay0, PyData.depth]
  | n, .bl _, _ => by simp [toPy, PyData.canLay0, PyData.depth]
  | n, .int _, _ => by simp [toPy, PyData.canLay0, PyData.depth]
  | n, .str x, h => by
    have h : PyData.strOk x = true := by cases n <;> simpa [okD] using h
    simp [toPy, PyData.canLay0, PyData.depth, h]
  | n, .tup ds, h => by
    obtain ⟨m, rfl, hm⟩ := okD_tup.mp h
    obtain ⟨a, b⟩ := okDs_lay m ds hm
    simp only [toPy, PyData.canLay0, PyData.depth, a, true_and]; omega
  | n, .lst ds, h => by
    obtain ⟨m, rfl, hm⟩ := okD_lst.mp h
    obtain ⟨a, b⟩ := okDs_lay m ds hm
    simp only [toPy, PyData.canLay0, PyData.depth, a, true_and]; omega
  | n, .dct _ _ _, h => by cases n <;> simp [okD] at h
  | n, .ins _ _ _, h => by cases n <;> simp [okD] at h
  | n, .scr _, h => by cases n <;> simp [okD] at h
  | n, .ty _, h => by cases n <;> simp [okD] at h
  | n, .exn _ _ _, h => by cases n <;> simp [okD] at h
theorem okDs_lay : ∀ (n : Nat) (ds : List D), (∀ d ∈ ds, okD n d = true) → PyData.canLayAll0 (toPys ds) = true ∧ PyData.depthAll (toPys ds) ≤ n
  | n, [], _ => by simp [toPys, PyData.canLayAll0, PyData.depthAll]
  | n, d :: ds, h => by
    obtain ⟨a, b⟩ := okD_lay n d (h d (by simp))
    obtain ⟨a2, b2⟩ := okDs_lay n ds fun x hx => h x (by simp [hx])
    simp only [toPys, PyData.canLayAll0, PyData.depthAll, a, a2, Bool.and_self, true_and]
    exact Nat.max_le.mpr ⟨b, b2⟩
end
theorem okD_shaped {n : Nat} {d : D} (h : okD n d = true) (hn : n ≤ 64) : SeqAt.shaped (toPy d) = true := by
  obtain ⟨a, b⟩ := okD_lay n d h
  unfold SeqAt.shaped
  rw [a, Bool.true_and, decide_eq_true_eq]
  omega
mutual
theorem eqv_py : ∀ (n m : Nat) (a b : D), okD n a = true → okD m b = true → (toPy a).eqv (toPy b) = a.eqv b
  | n, m, .non, b, h, h' => by cases b <;> first | (cases m <;> simp [okD] at h'; done) | simp [toPy, PyData.eqv, D.eqv]
  | n, m, .bl _, b, h, h' => by cases b <;> first | (cases m <;> simp [okD] at h'; done) | simp [toPy, PyData.eqv, D.eqv]
  | n, m, .int _, b, h, h' => by cases b <;> first | (cases m <;> simp [okD] at h'; done) | simp [toPy, PyData.eqv, D.eqv]
  | n, m, .str _, b, h, h' => by cases b <;> first | (cases m <;> simp [okD] at h'; done) | simp [toPy, PyData.eqv, D.eqv]
  | n, m, .tup xs, b, h, h' => by
    cases b with
    | tup ys =>
      obtain ⟨n1, rfl, hn⟩ := okD_tup.mp h
      obtain ⟨m1, rfl, hm'⟩ := okD_tup.mp h'
      rw [toPy, toPy, PyData.eqv, D.eqv]
      exact eqvs_py n1 m1 xs ys hn hm'
    | _ => first | (cases m <;> simp [okD] at h'; done) | simp [toPy, PyData.eqv, D.eqv]
  | n, m, .lst xs, b, h, h' => by
    cases b with
    | lst ys =>
      obtain ⟨n1, rfl, hn⟩ := okD_lst.mp h
      obtain ⟨m1, rfl, hm'⟩ := okD_lst.mp h'
      rw [toPy, toPy, PyData.eqv, D.eqv]
      exact eqvs_py n1 m1 xs ys hn hm'
    | _ => first | (cases m <;> simp [okD] at h'; done) | simp [toPy, PyData.eqv, D.eqv]
  | n, m, .dct _ _ _, b, h, h' => by cases n <;> simp [okD] at h
  | n, m, .ins _ _ _, b, h, h' => by cases n <;> simp [okD] at h
  | n, m, .scr _, b, h, h' => by cases n <;> simp [okD] at h
  | n, m, .ty _, b, h, h' => by cases n <;> simp [okD] at h
  | n, m, .exn _ _ _, b, h, h' => by cases n <;> simp [okD] at h
theorem eqvs_py : ∀ (n m : Nat) (a b : List D), (∀ d ∈ a, okD n d = true) → (∀ d ∈ b, okD m d = true) → PyData.eqvAll (toPys a) (toPys b) = D.eqvs a b
  | n, m, [], [], h, h' => by simp [toPys, PyData.eqvAll, D.eqvs]
  | n, m, [], _ :: _, h, h' => by simp [toPys, PyData.eqvAll, D.eqvs]
  | n, m, _ :: _, [], h, h' => by simp [toPys, PyData.eqvAll, D.eqvs]
  | n, m, x :: xs, y :: ys, h, h' => by
    rw [toPys, toPys, PyData.eqvAll, D.eqvs, eqv_py n m x y (h x (by simp)) (h' y (by simp)), eqvs_py n m xs ys (fun d hd => h d (by simp [hd])) fun d hd => h' d (by simp [hd])]
end
section
variable {g : Gv} {H F : Hp}
mutual
theorem dp_of : ∀ (n : Nat) (d : D) (v : V), Le F H → okD n d = true → RepV g F d v → Dp g.K H v (toPy d)
  | n, .non, v, le, h, r => by rw [RepV] at r; subst r; rw [toPy]; exact .non
  | n, .bl _, v, le, h, r => by rw [RepV] at r; subst r; rw [toPy]; exact .bl _
  | n, .int _, v, le, h, r => by rw [RepV] at r; subst r; rw [toPy]; exact .int _
  | n, .str _, v, le, h, r => by rw [RepV] at r; subst r; rw [toPy]; exact .str _
  | n, .tup ds, v, le, h, r => by
    obtain ⟨m, rfl, hm⟩ := okD_tup.mp h
    rw [RepV] at r
    obtain ⟨a, vs, rfl, q, rs⟩ := r
    rw [toPy]
    exact .tup (SqT.mono le q) (dps_of m ds vs le hm rs)
  | n, .lst ds, v, le, h, r => by
    obtain ⟨m, rfl, hm⟩ := okD_lst.mp h
    rw [RepV] at r
    obtain ⟨a, vs, rfl, q, rs⟩ := r
    rw [toPy]
    exact .lst (SqL.of (le _ _ q)) (dps_of m ds vs le hm rs)
  | n, .dct _ _ _, v, le, h, r => by cases n <;> simp [okD] at h
  | n, .ins _ _ _, v, le, h, r => by cases n <;> simp [okD] at h
  | n, .scr _, v, le, h, r => by cases n <;> simp [okD] at h
  | n, .ty _, v, le, h, r => by cases n <;> simp [okD] at h
  | n, .exn _ _ _, v, le, h, r => by cases n <;> simp [okD] at h
theorem dps_of : ∀ (n : Nat) (ds : List D) (vs : List V), Le F H → (∀ d ∈ ds, okD n d = true) → RepVs g F ds vs → DpAll g.K H vs (toPys ds)
  | n, [], vs, le, h, r => by rw [RepVs] at r; subst r; rw [toPys]; exact .nil
  | n, d :: ds, vs, le, h, r => by
    rw [RepVs] at r
    obtain ⟨v, w, rfl, r1, r2⟩ := r
    rw [toPys]
    exact .cons (dp_of n d v le (h d (by simp)) r1) (dps_of n ds w le (fun x hx => h x (by simp [hx])) r2)
end
mutual
theorem dpO_of : ∀ (n : Nat) (o : O) (v : V) (S : Addr → Prop), Le F H → okD n (fz o) = true → RepO g H F o v S → Dp g.K H v (toPy (fz o))
  | n, .val d, v, S, le, h, r => by
    rw [RepO] at r
    rw [PF.fz] at h ⊢
    exact dp_of n d v le h r
  | n, .lst os, v, S, le, h, r => by
    rw [PF.fz] at h ⊢
    obtain ⟨m, rfl, hm⟩ := okD_lst.mp h
    rw [RepO] at r
    obtain ⟨a, vs, rfl, sa, q, rs⟩ := r
    rw [toPy]
    exact .lst (SqL.of q) (dpOs_of m os vs _ le hm rs)
  | n, .dct _ _ _, v, S, le, h, r => by rw [PF.fz] at h; cases n <;> simp [okD] at h
  | n, .ins _ _ _, v, S, le, h, r => by rw [PF.fz] at h; cases n <;> simp [okD] at h
theorem dpOs_of : ∀ (n : Nat) (os : List O) (vs : List V) (S : Addr → Prop), Le F H → (∀ d ∈ fzs os, okD n d = true) → RepOs g H F os vs S → DpAll g.K H vs (toPys (fzs os))
  | n, [], vs, S, le, h, r => by rw [RepOs] at r; subst r; rw [PF.fzs, toPys]; exact .nil
  | n, o :: os, vs, S, le, h, r => by
    rw [RepOs] at r
    obtain ⟨v, w, S1, S2, rfl, sp, r1, r2⟩ := r
    rw [PF.fzs] at h ⊢
    rw [toPys]
    exact .cons (dpO_of n o v S1 le (h _ (by simp)) r1) (dpOs_of n os w S2 le (fun x hx => h x (by simp [hx])) r2)
end
end

/-! ### rules by values -/
section
variable (g : Gv)
def rB (G : O → O → Option O) : R2 := fun x y H Q => ∃ F Gx σ ρ oa ob S1 S2 res, StG g H F Gx σ ρ [] ∧ RepO g H F oa x S1 ∧ RepO g H F ob y S2 ∧ G oa ob = some res ∧ Yd g H F Gx σ ρ res Q
def rC (C : O → O → Option Bool) : R2 := fun x y H Q => ∃ F oa ob S1 S2 b, Le F H ∧ RepO g H F oa x S1 ∧ RepO g H F ob y S2 ∧ C oa ob = some b ∧ Q (.bl b) H
end
theorem StG.le {g : Gv} {H F Gx : Hp} {σ : L2.St} {ρ : Sls} {L : List (V × O)} (h : StG g H F Gx σ ρ L) : Le F H := h.gd.leF

def addG : O → O → Option O
  | .val (.int i), .val (.int j) => some (.val (.int (i + j)))
  | .val (.str x), .val (.str y) => if x.length + y.length ≤ lim then some (.val (.str (x ++ y))) else none
  | .val (.tup xs), .val (.tup ys) => if xs.length + ys.length ≤ lim then some (.val (.tup (xs ++ ys))) else none
  | a, b => match a.dsL, b.dsL with
    | some xs, some ys => if xs.length + ys.length ≤ lim then some (.lst ((xs ++ ys).map .val)) else none
    | _, _ => none
def subG : O → O → Option O
  | .val (.int i), .val (.int j) => some (.val (.int (i - j)))
  | _, _ => none
@[irreducible] def mulG : O → O → Option O
  | .val (.int i), .val (.int j) => if (-(2 ^ 64) < i ∧ i < 2 ^ 64) ∨ (-(2 ^ 64) < j ∧ j < 2 ^ 64) then some (.val (.int (i * j))) else none
  | .val (.str x), .val (.int j) => none
  | a, .val (.int k) => match a.dsL with
    | some xs => if -(2 ^ 63) ≤ k ∧ k < 2 ^ 63 ∧ xs.length * k.toNat ≤ lim then some (.lst ((List.replicate k.toNat xs).flatten.map .val)) else none
    | _ => none
  | _, _ => none
@[irreducible] def divG : O → O → Option O
  | .val (.int i), .val (.int j) => if 0 < j ∧ j < 2 ^ 64 then some (.val (.int (i / j))) else none
  | _, _ => none
@[irreducible] def modG : O → O → Option O
  | .val (.int i), .val (.int j) => if 0 < j then some (.val (.int (i % j))) else none
  | _, _ => none
@[irreducible] def powG : O → O → Option O
  | .val (.int i), .val (.int j) => if 0 ≤ j ∧ j ≤ 1000 ∧ i.natAbs < 2 ^ 64 then some (.val (.int (i ^ j.toNat))) else none
  | _, _ => none
def eqC (a b : O) : Option Bool := match a, b with
  | .val (.str x), .val (.str y) => some (x == y)
  | a, b => if okD 16 (fz a) && okD 16 (fz b) then some ((fz a).eqv (fz b)) else none
def neC (a b : O) : Option Bool := (eqC a b).map (!·)
def ltC : O → O → Option Bool
  | .val (.int i), .val (.int j) => some (decide (i < j))
  | _, _ => none
def leC : O → O → Option Bool
  | .val (.int i), .val (.int j) => some (decide (i ≤ j))
  | _, _ => none
def gtC : O → O → Option Bool
  | .val (.int i), .val (.int j) => some (decide (j < i))
  | _, _ => none
def geC : O → O → Option Bool
  | .val (.int i), .val (.int j) => some (decide (j ≤ i))
  | _, _ => none
def nonO : O → Bool
  | .val .non => true
  | _ => false
def isC : O → O → Option Bool
  | .val (.bl a), .val (.bl b) => some (decide (a = b))
  | a, .val .non => some (nonO a)
  | _, _ => none
def isNC (a b : O) : Option Bool := (isC a b).map (!·)
/-- in a list, a tuple, a text -/
def inC (a b : O) : Option Bool := match a, b with
  | .val (.str x), .val (.str z) => match x.cps.toList with
    | [c] => some (decide (c ∈ z.cps.toList))
    | _ => none
  | a, b => if okD 16 (fz a) && okD 16 (fz b) then (match fz b with
    | .tup ds => some (ds.any fun z => z.eqv (fz a))
    | .lst ds => some (ds.any fun z => z.eqv (fz a))
    | _ => none) else none
def ninC (a b : O) : Option Bool := (inC a b).map (!·)

section
variable {X : Cx} {ca : Ca}
theorem RepO.intV {g : Gv} {H F : Hp} {i : Int} {x : V} {S : Addr → Prop} (r : RepO g H F (.val (.int i)) x S) : x = .int i := by rw [RepO, RepV] at r; exact r
theorem RepO.strV {g : Gv} {H F : Hp} {i : Str} {x : V} {S : Addr → Prop} (r : RepO g H F (.val (.str i)) x S) : x = .str i := by rw [RepO, RepV] at r; exact r
theorem RepO.blV {g : Gv} {H F : Hp} {i : Bool} {x : V} {S : Addr → Prop} (r : RepO g H F (.val (.bl i)) x S) : x = .bl i := by rw [RepO, RepV] at r; exact r
theorem RepO.nonV {g : Gv} {H F : Hp} {x : V} {S : Addr → Prop} (r : RepO g H F (.val .non) x S) : x = .non := by rw [RepO, RepV] at r; exact r
theorem repI {g : Gv} {F : Hp} {i : Int} : RepV g F (.int i) (.int i) := by rw [RepV]
theorem repS {g : Gv} {F : Hp} {i : Str} : RepV g F (.str i) (.str i) := by rw [RepV]
theorem repB {g : Gv} {F : Hp} {i : Bool} : RepV g F (.bl i) (.bl i) := by rw [RepV]
theorem repN {g : Gv} {F : Hp} : RepV g F .non .non := by rw [RepV]

theorem op_addG : OpR X (binaryOp .Add) (rB (gv X ca) addG) := by
  intro pins s σ H x y v u Q I rx ry ⟨F, Gx, σ', ρ, oa, ob, S1, S2, res, st, ra, rb, e, yd⟩
  unfold addG at e
  split at e
  · cases e
    cases ra.intV; cases rb.intV
    exact op_add pins s σ H _ _ v u Q I rx ry ⟨_, _, rfl, rfl, yd.val st repI⟩
  · split at e
    · rename_i hl
      cases e
      cases ra.strV; cases rb.strV
      exact op_add_str pins s σ H _ _ v u Q I rx ry ⟨_, _, rfl, rfl, lim_le hl, yd.val st repS⟩
    · cases e
  · split at e
    · rename_i xs ys hl
      cases e
      obtain ⟨a, vs, rfl, qa, rva⟩ := dsT_ok st.le ra (ds := xs) rfl
      obtain ⟨b, us, rfl, qb, rvb⟩ := dsT_ok st.le rb (ds := ys) rfl
      have la := rva.length
      have lb := rvb.length
      refine op_catA pins s σ H _ _ v u Q I rx ry ⟨a, b, vs, us, rfl, rfl, qa, qb, lim_le (by omega), fun h0 => ?_, fun h0 h1 => ?_, fun h0 h1 => yd.tup st (rva.app rvb)⟩
      · subst h0
        have : xs = [] := List.eq_nil_of_length_eq_zero (by simpa using la.symm)
        subst this
        rw [List.nil_append] at yd
        rw [RepO] at rb
        exact yd.val st rb
      · subst h1
        have : ys = [] := List.eq_nil_of_length_eq_zero (by simpa using lb.symm)
        subst this
        rw [List.append_nil] at yd
        rw [RepO] at ra
        exact yd.val st ra
    · cases e
  · split at e
    · rename_i xs ys hx hy
      split at e
      · rename_i hl
        cases e
        obtain ⟨a, vs, rfl, qa, rva⟩ := dsL_ok st.le ra hx
        obtain ⟨b, us, rfl, qb, rvb⟩ := dsL_ok st.le rb hy
        have la := rva.length
        have lb := rvb.length
        exact op_cat pins s σ H _ _ v u Q I rx ry ⟨a, b, vs, us, rfl, rfl, qa, qb, lim_le (by omega), yd.lst st (rva.app rvb)⟩
      · cases e
    · cases e
theorem op_subG : OpR X (binaryOp .Sub) (rB (gv X ca) subG) := by
  intro pins s σ H x y v u Q I rx ry ⟨F, Gx, σ', ρ, oa, ob, S1, S2, res, st, ra, rb, e, yd⟩
  unfold subG at e
  split at e
  · cases e
    cases ra.intV; cases rb.intV
    exact op_sub pins s σ H _ _ v u Q I rx ry ⟨_, _, rfl, rfl, yd.val st repI⟩
  · cases e
theorem RepVs.rep {g : Gv} {F : Hp} {ds : List D} {vs : List V} (h : RepVs g F ds vs) : ∀ k : Nat, RepVs g F (List.replicate k ds).flatten (List.replicate k vs).flatten
  | 0 => by simp [RepVs]
  | k + 1 => by
    rw [List.replicate_succ, List.replicate_succ, List.flatten_cons, List.flatten_cons]
    exact h.app (RepVs.rep h k)
theorem op_mulG : OpR X (binaryOp .Mult) (rB (gv X ca) mulG) := by
  intro pins s σ H x y v u Q I rx ry ⟨F, Gx, σ', ρ, oa, ob, S1, S2, res, st, ra, rb, e, yd⟩
  unfold mulG at e
  split at e
  · split at e
    · rename_i hc
      cases e
      cases ra.intV; cases rb.intV
      exact op_mul pins s σ H _ _ v u Q I rx ry ⟨_, _, rfl, rfl, hc, yd.val st repI⟩
    · cases e
  · cases e
  · split at e
    · rename_i xs hx
      split at e
      · rename_i hl
        cases e
        cases rb.intV
        obtain ⟨a, vs, rfl, qa, rva⟩ := dsL_ok st.le ra hx
        have la := rva.length
        exact op_rep pins s σ H _ _ v u Q I rx ry ⟨a, _, vs, rfl, rfl, qa, hl.1, hl.2.1, lim_le (by rw [la]; exact hl.2.2), yd.lst st (rva.rep _)⟩
      · cases e
    · cases e
  · cases e
theorem op_divG : OpR X (binaryOp .FloorDiv) (rB (gv X ca) divG) := by
  intro pins s σ H x y v u Q I rx ry ⟨F, Gx, σ', ρ, oa, ob, S1, S2, res, st, ra, rb, e, yd⟩
  unfold divG at e
  split at e
  · split at e
    · rename_i i j hc
      cases e
      cases ra.intV; cases rb.intV
      exact op_fdivW pins s σ H _ _ v u Q I rx ry ⟨_, _, rfl, rfl, wide_div (b := 64) hc.1 (by omega) (by decide) (by decide), yd.val st repI⟩
    · cases e
  · cases e
theorem op_modG : OpR X (binaryOp .Mod) (rB (gv X ca) modG) := by
  intro pins s σ H x y v u Q I rx ry ⟨F, Gx, σ', ρ, oa, ob, S1, S2, res, st, ra, rb, e, yd⟩
  unfold modG at e
  split at e
  · split at e
    · rename_i hc
      cases e
      cases ra.intV; cases rb.intV
      exact op_mod pins s σ H _ _ v u Q I rx ry ⟨_, _, rfl, rfl, hc, yd.val st repI⟩
    · cases e
  · cases e
theorem op_powG : OpR X (binaryOp .Pow) (rB (gv X ca) powG) := by
  intro pins s σ H x y v u Q I rx ry ⟨F, Gx, σ', ρ, oa, ob, S1, S2, res, st, ra, rb, e, yd⟩
  unfold powG at e
  split at e
  · split at e
    · rename_i hc
      cases e
      cases ra.intV; cases rb.intV
      exact op_pow pins s σ H _ _ v u Q I rx ry ⟨_, _, rfl, rfl, ⟨hc.1, by omega, hc.2.2⟩, yd.val st repI⟩
    · cases e
  · cases e
theorem scal_str (x y : Str) : decide (V.str x = V.str y) = (x == y) := dec_str
theorem op_eqC (hu : X.A.units + 64 < cLine) : OpR X (compareOp .Eq) (rC (gv X ca) eqC) := by
  intro pins s σ H x y v u Q I rx ry ⟨F, oa, ob, S1, S2, b, le, ra, rb, e, q⟩
  unfold eqC at e
  split at e
  · cases e
    cases ra.strV; cases rb.strV
    exact op_eq pins s σ H _ _ v u Q I rx ry ⟨rfl, by rw [scal_str]; exact q⟩
  · split at e
    · rename_i hk
      cases e
      rw [Bool.and_eq_true] at hk
      refine op_eqD hu pins s σ H _ _ v u Q I rx ry ⟨_, _, dpO_of 16 oa x S1 le hk.1 ra, dpO_of 16 ob y S2 le hk.2 rb, okD_shaped hk.1 (by decide), okD_shaped hk.2 (by decide), ?_⟩
      rw [eqv_py 16 16 _ _ hk.1 hk.2]
      exact q
    · cases e
theorem op_neC (hu : X.A.units + 64 < cLine) : OpR X (compareOp .NotEq) (rC (gv X ca) neC) := by
  intro pins s σ H x y v u Q I rx ry ⟨F, oa, ob, S1, S2, b, le, ra, rb, e, q⟩
  unfold neC at e
  obtain ⟨c, e2, eb⟩ := Option.map_eq_some_iff.mp e
  subst eb
  unfold eqC at e2
  split at e2
  · cases e2
    cases ra.strV; cases rb.strV
    exact op_ne pins s σ H _ _ v u Q I rx ry ⟨rfl, by rw [scal_str]; exact q⟩
  · split at e2
    · rename_i hk
      cases e2
      rw [Bool.and_eq_true] at hk
      refine op_neD hu pins s σ H _ _ v u Q I rx ry ⟨_, _, dpO_of 16 oa x S1 le hk.1 ra, dpO_of 16 ob y S2 le hk.2 rb, okD_shaped hk.1 (by decide), okD_shaped hk.2 (by decide), ?_⟩
      rw [eqv_py 16 16 _ _ hk.1 hk.2]
      exact q
    · cases e2
theorem op_ltC : OpR X (compareOp .Lt) (rC (gv X ca) ltC) := by
  intro pins s σ H x y v u Q I rx ry ⟨F, oa, ob, S1, S2, b, le, ra, rb, e, q⟩
  unfold ltC at e
  split at e
  · cases e
    cases ra.intV; cases rb.intV
    exact op_lt pins s σ H _ _ v u Q I rx ry ⟨_, _, rfl, rfl, q⟩
  · cases e
theorem op_leC : OpR X (compareOp .LtE) (rC (gv X ca) leC) := by
  intro pins s σ H x y v u Q I rx ry ⟨F, oa, ob, S1, S2, b, le, ra, rb, e, q⟩
  unfold leC at e
  split at e
  · cases e
    cases ra.intV; cases rb.intV
    exact op_le pins s σ H _ _ v u Q I rx ry ⟨_, _, rfl, rfl, q⟩
  · cases e
theorem op_gtC : OpR X (compareOp .Gt) (rC (gv X ca) gtC) := by
  intro pins s σ H x y v u Q I rx ry ⟨F, oa, ob, S1, S2, b, le, ra, rb, e, q⟩
  unfold gtC at e
  split at e
  · cases e
    cases ra.intV; cases rb.intV
    exact op_gt pins s σ H _ _ v u Q I rx ry ⟨_, _, rfl, rfl, q⟩
  · cases e
theorem op_geC : OpR X (compareOp .GtE) (rC (gv X ca) geC) := by
  intro pins s σ H x y v u Q I rx ry ⟨F, oa, ob, S1, S2, b, le, ra, rb, e, q⟩
  unfold geC at e
  split at e
  · cases e
    cases ra.intV; cases rb.intV
    exact op_ge pins s σ H _ _ v u Q I rx ry ⟨_, _, rfl, rfl, q⟩
  · cases e
theorem non_dec {g : Gv} {H F : Hp} {oa : O} {x : V} {S : Addr → Prop} (ra : RepO g H F oa x S) : decide (x = .non) = nonO oa := by
  cases oa with
  | val d =>
    rw [RepO] at ra
    cases d with
    | non => rw [RepV] at ra; subst ra; rfl
    | bl _ => rw [RepV] at ra; subst ra; rfl
    | int _ => rw [RepV] at ra; subst ra; rfl
    | str _ => rw [RepV] at ra; subst ra; rfl
    | tup _ => rw [RepV] at ra; obtain ⟨a, vs, rfl, _⟩ := ra; rfl
    | lst _ => rw [RepV] at ra; obtain ⟨a, vs, rfl, _⟩ := ra; rfl
    | dct t _ _ => cases t <;> (rw [RepV] at ra; obtain ⟨a, vs, rfl, _⟩ := ra; rfl)
    | ins _ _ _ => rw [RepV] at ra; obtain ⟨a, dx, vs, rfl, _⟩ := ra; rfl
    | scr _ => rw [RepV] at ra; obtain ⟨a, rfl, _⟩ := ra; rfl
    | ty _ => rw [RepV] at ra; subst ra; rfl
    | exn _ _ _ => rw [RepV] at ra; obtain ⟨x, _, rfl, _⟩ := ra; rfl
  | lst _ => rw [RepO] at ra; obtain ⟨a, vs, rfl, _⟩ := ra; rfl
  | dct t _ _ => cases t <;> (rw [RepO] at ra; obtain ⟨a, vs, rfl, _⟩ := ra; rfl)
  | ins _ _ _ => rw [RepO] at ra; obtain ⟨a, dx, vs, rfl, _⟩ := ra; rfl
theorem op_isC : OpR X (compareOp .Is) (rC (gv X ca) isC) := by
  intro pins s σ H x y v u Q I rx ry ⟨F, oa, ob, S1, S2, b, le, ra, rb, e, q⟩
  unfold isC at e
  split at e
  · cases e
    cases ra.blV; cases rb.blV
    exact op_isBl pins s σ H _ _ v u Q I rx ry ⟨_, _, rfl, rfl, q⟩
  · cases e
    cases rb.nonV
    refine op_isN pins s σ H _ _ v u Q I rx ry ⟨rfl, ?_⟩
    rw [non_dec ra]
    exact q
  · cases e
theorem op_isNC : OpR X (compareOp .IsNot) (rC (gv X ca) isNC) := by
  intro pins s σ H x y v u Q I rx ry ⟨F, oa, ob, S1, S2, b, le, ra, rb, e, q⟩
  unfold isNC at e
  obtain ⟨c, e2, eb⟩ := Option.map_eq_some_iff.mp e
  subst eb
  unfold isC at e2
  split at e2
  · cases e2
    cases ra.blV; cases rb.blV
    exact op_notBl pins s σ H _ _ v u Q I rx ry ⟨_, _, rfl, rfl, q⟩
  · cases e2
    cases rb.nonV
    refine op_notN pins s σ H _ _ v u Q I rx ry ⟨rfl, ?_⟩
    rw [non_dec ra]
    exact q
  · cases e2
theorem any_py {n m : Nat} {d : D} (hd : okD m d = true) : ∀ {ds : List D}, (∀ x ∈ ds, okD n x = true) → ((toPys ds).any fun z => PyData.eqv z (toPy d)) = ds.any fun z => z.eqv d
  | [], _ => rfl
  | x :: xs, h => by
    rw [toPys, List.any_cons, List.any_cons, eqv_py n m x d (h x (by simp)) hd, any_py hd fun y hy => h y (by simp [hy])]
theorem one_sign {x : Str} {c : Nat} (h : x.cps.toList = [c]) : x = ⟨#[c]⟩ := by
  obtain ⟨a⟩ := x
  cases a
  simp at h
  subst h
  rfl
theorem op_inC (hu : X.A.units + 65 < cLine) : OpR X (compareOp .In) (rC (gv X ca) inC) := by
  intro pins s σ H x y v u Q I rx ry ⟨F, oa, ob, S1, S2, b, le, ra, rb, e, q⟩
  unfold inC at e
  split at e
  · split at e
    · rename_i hc
      cases e
      cases ra.strV; cases rb.strV
      exact op_in_sign pins s σ H _ _ v u Q I rx ry ⟨_, _, by rw [one_sign hc], rfl, q⟩
    · cases e
  · split at e
    · rename_i hk
      rw [Bool.and_eq_true] at hk
      have dx := dpO_of 16 oa x S1 le hk.1 ra
      have dy := dpO_of 16 ob y S2 le hk.2 rb
      obtain ⟨as, r1⟩ := Dp.reads I _ x v dx rx
      have sd := okD_shaped hk.1 (by decide)
      split at e
      · rename_i ds hb
        cases e
        rw [hb] at hk dy
        rw [toPy] at dy
        obtain ⟨m, hm, hds⟩ := okD_tup.mp hk.2
        obtain ⟨bs, r2⟩ := Dp.reads I _ y u dy ry
        refine SeqAt.in_tuple_reads r2 r1 (okDs_lay m ds hds).1 (SeqAt.canLay_of_shaped sd) (room_in_shaped sd hu) ⟨.bl _, H, I, rfl, ?_⟩
        rw [any_py hk.1 hds]
        exact q
      · rename_i ds hb
        cases e
        rw [hb] at hk dy
        rw [toPy] at dy
        obtain ⟨m, hm, hds⟩ := okD_lst.mp hk.2
        obtain ⟨bs, r2⟩ := Dp.reads I _ y u dy ry
        refine SeqAt.in_list_reads r2 r1 (okDs_lay m ds hds).1 (SeqAt.canLay_of_shaped sd) (room_in_shaped sd hu) ⟨.bl _, H, I, rfl, ?_⟩
        rw [any_py hk.1 hds]
        exact q
      · cases e
    · cases e
theorem op_ninC (hu : X.A.units + 65 < cLine) : OpR X (compareOp .NotIn) (rC (gv X ca) ninC) := by
  intro pins s σ H x y v u Q I rx ry ⟨F, oa, ob, S1, S2, b, le, ra, rb, e, q⟩
  unfold ninC at e
  obtain ⟨c, e2, eb⟩ := Option.map_eq_some_iff.mp e
  subst eb
  unfold inC at e2
  split at e2
  · split at e2
    · rename_i hc
      cases e2
      cases ra.strV; cases rb.strV
      exact op_notIn_sign pins s σ H _ _ v u Q I rx ry ⟨_, _, by rw [one_sign hc], rfl, q⟩
    · cases e2
  · split at e2
    · rename_i hk
      rw [Bool.and_eq_true] at hk
      have dx := dpO_of 16 oa x S1 le hk.1 ra
      have dy := dpO_of 16 ob y S2 le hk.2 rb
      obtain ⟨as, r1⟩ := Dp.reads I _ x v dx rx
      have sd := okD_shaped hk.1 (by decide)
      split at e2
      · rename_i ds hb
        cases e2
        rw [hb] at hk dy
        rw [toPy] at dy
        obtain ⟨m, hm, hds⟩ := okD_tup.mp hk.2
        obtain ⟨bs, r2⟩ := Dp.reads I _ y u dy ry
        refine SeqAt.notIn_tuple_reads r2 r1 (okDs_lay m ds hds).1 (SeqAt.canLay_of_shaped sd) (room_in_shaped sd hu) ⟨.bl _, H, I, rfl, ?_⟩
        rw [any_py hk.1 hds]
        exact q
      · rename_i ds hb
        cases e2
        rw [hb] at hk dy
        rw [toPy] at dy
        obtain ⟨m, hm, hds⟩ := okD_lst.mp hk.2
        obtain ⟨bs, r2⟩ := Dp.reads I _ y u dy ry
        refine SeqAt.notIn_list_reads r2 r1 (okDs_lay m ds hds).1 (SeqAt.canLay_of_shaped sd) (room_in_shaped sd hu) ⟨.bl _, H, I, rfl, ?_⟩
        rw [any_py hk.1 hds]
        exact q
      · cases e2
    · cases e2
end

/-! ### the terms -/
section
variable {W : WX} {X : Cx} {ca : Ca} {a b c : Expr} {ta tb tc : TE} {f : M (O × O)} {pos : Pos}
def binF (G : O → O → Option O) (f : M (O × O)) : M O := f.bind fun p => M.of (G p.1 p.2)
def cmpF (C : O → O → Option Bool) (f : M (O × O)) : M Bool := f.bind fun p => M.of (C p.1 p.2)
def blO (f : M Bool) : M O := f.bind fun b => M.pure (.val (.bl b))
theorem e_bin {op : Operator} {G : O → O → Option O} (ho : OpR X (binaryOp op) (rB (gv X ca) G)) (p : Pr (gv X ca) W ta tb f) (ha : PE X a ta) (hb : PE X b tb) : PE X (.BinOp a op b pos) (T (gv X ca) W (binF G f)) :=
  PE.imp (pe_op ho ha hb) fun σ H Q ⟨F, Gx, ρ, st, r⟩ => p σ H _ ⟨F, Gx, ρ, st, r.bind.mono fun p H' F' ρ' le r1 x y S1 S2 st' rx ry => by
    obtain ⟨res, e, q⟩ := r1.of
    exact ⟨F', Gx, σ, ρ', _, _, S1, S2, res, st', rx, ry, e, fun v H2 F2 le2 st2 => q H2 F2 le2 v st2⟩⟩
end
end PF

set_option Elab.async false
set_option linter.all false
set_option maxRecDepth 100000
set_option maxHeartbeats 2000000
namespace PF
open PySem PySem.Spec PyProof.Rows L2

/-! ### more on what is owned -/
section
variable {g : Gv}
theorem RepL.toOs {H F : Hp} : ∀ {vs : List V} {os : List O} {S : Addr → Prop}, vs.length = os.length → RepL g H F (vs.zip os) S → RepOs g H F os vs S
  | [], [], S, _, _ => by rw [RepOs]
  | v :: vs, o :: os, S, hl, ⟨S1, S2, sp, r1, r2⟩ => by
    rw [RepOs]
    exact ⟨v, vs, S1, S2, rfl, sp, r1, RepL.toOs (by simpa using hl) r2⟩
  | [], _ :: _, _, hl, _ => by simp at hl
  | _ :: _, [], _, hl, _ => by simp at hl
theorem Good.freezeL {H Gx : Hp} : ∀ {F : Hp} {vs : List V} {os : List O} {B : List (V × O)}, vs.length = os.length → Good g H F Gx (vs.zip os ++ B) → ∃ F', Le F F' ∧ Good g H F' Gx B ∧ RepVs g F' (fzs os) vs
  | F, [], [], B, _, h => ⟨F, Le.refl F, h, by rw [fzs, RepVs]⟩
  | F, v :: vs, o :: os, B, hl, h => by
    obtain ⟨F1, le1, h1⟩ := Good.freeze (B := vs.zip os ++ B) h
    obtain ⟨F2, le2, h2, r2⟩ := Good.freezeL (F := F1) (vs := vs) (os := os) (B := B) (by simpa using hl) h1.drop1
    exact ⟨F2, le1.trans le2, h2, by rw [fzs, RepVs]; exact ⟨v, vs, rfl, RepV.mono g le2 _ _ h1.val, r2⟩⟩
  | _, [], _ :: _, _, hl, _ => by simp at hl
  | _, _ :: _, [], _, hl, _ => by simp at hl
/-- a new owned thing, of owned parts -/
theorem Good.newP {H F Gx : Hp} {A L : List (V × O)} {o : O} {p : Addr} {u : HO} (h : Good g H F Gx (A ++ L)) (hp : H p = none)
    (r : ∀ S1 S, (∀ a, S1 a → a ≠ p) → RepL g (upd H p u) F A S1 → S p → (∀ a, S1 a → S a) → RepO g (upd H p u) F o (.ref p) S) : Good g (upd H p u) F Gx ((.ref p, o) :: L) := by
  obtain ⟨S, hT, hF, hG, hFG, hS, hL⟩ := h.ex
  obtain ⟨SA, SL, sp, rA, rL⟩ := RepL.split g A L S hL
  have nF : F p = none := by
    cases q : F p with
    | none => rfl
    | some o => rw [hF p o q] at hp; cases hp
  have nG : Gx p = none := by
    cases q : Gx p with
    | none => rfl
    | some o => rw [hG p o q] at hp; cases hp
  have nS : ∀ a, S a → a ≠ p := fun a h e => by
    subst e
    obtain ⟨_, _, o, ho⟩ := hS a h
    rw [ho] at hp; cases hp
  refine ⟨fun a => a = p ∨ S a, hT.fresh hp, fun a o e => ?_, fun a o e => ?_, hFG, fun a h => ?_, fun a => a = p ∨ SA a, SL, ⟨fun _ h => h.elim .inl (fun h => .inr (sp.l _ h)), fun _ h => .inr (sp.r _ h), fun a h1 h2 => h1.elim (fun h1 => nS a (sp.r a h2) h1) fun h1 => sp.d a h1 h2⟩,
    r SA _ (fun a h => nS a (sp.l a h)) (RepL.frame g (Le.refl F) A SA SA (fun _ h => h) (fun a h => upd_ne (nS a (sp.l a h))) rA) (.inl rfl) fun a h => .inr h, RepL.frame g (Le.refl F) L SL SL (fun _ h => h) (fun a h => upd_ne (nS a (sp.r a h))) rL⟩
  · rw [upd_ne (fun q => by subst q; rw [nF] at e; cases e)]; exact hF a o e
  · rw [upd_ne (fun q => by subst q; rw [nG] at e; cases e)]; exact hG a o e
  · rcases h with rfl | h
    · exact ⟨nF, nG, _, upd_same⟩
    · rw [upd_ne (nS a h)]; exact hS a h
end

/-! ### tests, and, or, not, if -/
def asB (o : O) : M Bool := match o with
  | .val (.bl b) => M.pure b
  | _ => M.stuck
def asI (o : O) : M (Option Int) := match o with
  | .val (.int i) => M.pure (some i)
  | _ => M.stuck
def andB (fa fb : M Bool) : M Bool := fa.bind fun c => if c = true then fb else M.pure false
def orB (fa fb : M Bool) : M Bool := fa.bind fun c => if c = true then M.pure true else fb
def notB (fa : M Bool) : M Bool := fa.bind fun c => M.pure (!c)
def iteM {α : Type} (fc : M Bool) (fa fb : M α) : M α := fc.bind fun c => if c = true then fa else fb
section
variable {g : Gv} {W : WX} {X : Cx} {ca : Ca} {a b c e : Expr} {rest : List Expr} {ta tb tc : TE} {fa fb : M Bool} {f : M (O × O)} {fo : M O} {pos : Pos}
theorem rC_mono {C : O → O → Option Bool} {x y : V} {H : Hp} {Q Q' : VK} (h : rC g C x y H Q) (i : ∀ b, Q (.bl b) H → Q' (.bl b) H) : rC g C x y H Q' := by
  obtain ⟨F, oa, ob, S1, S2, b, le, ra, rb, e, q⟩ := h
  exact ⟨F, oa, ob, S1, S2, b, le, ra, rb, e, i b q⟩
theorem cmp_run {C : O → O → Option Bool} {σ : L2.St} {H : Hp} {Q : Bool → Hp → Prop} (p : Pr g W ta tb f) (h : Tt g W (cmpF C f) σ H Q) :
    ta σ H fun x H1 => tb σ H1 fun y H2 => rC g C x y H2 fun z H' => ∃ k, z = .bl k ∧ Q k H' := by
  obtain ⟨F, Gx, ρ, st, r⟩ := h
  refine p σ H _ ⟨F, Gx, ρ, st, r.bind.mono fun p H' F' ρ' le r1 x y S1 S2 st' rx ry => ?_⟩
  obtain ⟨res, e, q⟩ := r1.of
  exact ⟨F', _, _, S1, S2, res, st'.le, rx, ry, e, res, rfl, q H' F' (Le.refl F') st'⟩
theorem T_bl {fb : M Bool} {σ : L2.St} {H : Hp} {Q : VK} (h : T g W (blO fb) σ H Q) : Tt g W fb σ H fun b H' => Q (.bl b) H' := by
  obtain ⟨F, Gx, ρ, st, r⟩ := h
  exact ⟨F, Gx, ρ, st, r.bind.mono fun b H' F' ρ' le r1 st' => r1.pure H' F' (Le.refl F') _ (st'.ofVal repB)⟩
theorem e_cmp {op : CmpOp} {C : O → O → Option Bool} (ho : OpR X (compareOp op) (rC (gv X ca) C)) (p : Pr (gv X ca) W ta tb f) (ha : PE X a ta) (hb : PE X b tb) (hm : behindInMarks op b = false) : PE X (.Compare a [op] [b] pos) (T (gv X ca) W (blO (cmpF C f))) :=
  PE.imp (pe_cmpR (r := fun x y H Q => rC (gv X ca) C x y H fun z H' => ∃ k, z = .bl k ∧ Q (.bl k) H') (fun pins s σ H x y v u Q I rx ry h => ho pins s σ H x y v u Q I rx ry (rC_mono h fun b ⟨k, e, q⟩ => by cases e; exact q)) ha hb hm) fun σ H Q h => cmp_run p (T_bl h)
theorem t_cmp {op : CmpOp} {C : O → O → Option Bool} (ho : OpR X (compareOp op) (rC (gv X ca) C)) (p : Pr (gv X ca) W ta tb f) (ha : PE X a ta) (hb : PE X b tb) (hm : behindInMarks op b = false) : PT X (.Compare a [op] [b] pos) (Tt (gv X ca) W (cmpF C f)) :=
  PT.imp (pt_cmpR ho ha hb hm) fun σ H Q h => cmp_run p h
/-- a test by its value -/
theorem Tt_val {σ : L2.St} {H : Hp} {Q : Bool → Hp → Prop} (h : Tt g W (fo.bind asB) σ H Q) : TR g W fo σ H fun x H1 => ∃ k, x = .bl k ∧ Q k H1 := by
  obtain ⟨F, Gx, ρ, st, r⟩ := h
  refine ⟨F, Gx, ρ, st, r.bind.mono fun o H' F' ρ' le r1 v S st' rv => ?_⟩
  obtain ⟨r2, ρ2, e2⟩ := r1.run
  unfold asB at r1 e2
  split at e2
  · cases rv.blV
    exact ⟨_, rfl, r1.pure H' F' (Le.refl F') st'⟩
  · cases e2
theorem t_val (h : PE X e (TR g W fo)) (he : ∀ whole, isTrue e X.env whole = (do let v ← whole; standAt e.pos; holding [v] (truthy v)) := by intro _; rfl) : PT X e (Tt g W (fo.bind asB)) :=
  PT.imp (pt_val h he) fun σ H Q h => Tt_val h
theorem Tt_bind {fa : M Bool} {k : Bool → M Bool} {σ : L2.St} {H : Hp} {Q : Bool → Hp → Prop} (h : Tt g W (fa.bind k) σ H Q) : Tt g W fa σ H fun c H1 => Tt g W (k c) σ H1 Q := by
  obtain ⟨F, Gx, ρ, st, r⟩ := h
  exact ⟨F, Gx, ρ, st, r.bind.mono fun c H' F' ρ' le r1 st' => ⟨F', Gx, ρ', st', r1⟩⟩
theorem Tt_pure {b : Bool} {σ : L2.St} {H : Hp} {Q : Bool → Hp → Prop} (h : Tt g W (M.pure b) σ H Q) : Q b H := by
  obtain ⟨F, Gx, ρ, st, r⟩ := h
  exact r.pure H F (Le.refl F) st
theorem Tt_mono {f : M Bool} {σ : L2.St} {H : Hp} {Q Q' : Bool → Hp → Prop} (h : Tt g W f σ H Q) (i : ∀ b H, Q b H → Q' b H) : Tt g W f σ H Q' := by
  obtain ⟨F, Gx, ρ, st, r⟩ := h
  exact ⟨F, Gx, ρ, st, r.mono fun b H' F' ρ' le q st' => i _ _ (q st')⟩
theorem t_and (ha : PT X a (Tt g W fa)) (hb : PW X (.BoolOp .And (b :: rest) pos) (Tt g W fb)) : PW X (.BoolOp .And (a :: b :: rest) pos) (Tt g W (andB fa fb)) :=
  PW.imp (pw_and ha hb) fun σ H Q h => Tt_mono (Tt_bind h) fun c H1 q => by
    cases c with
    | true => exact q
    | false => exact Tt_pure q
theorem t_or (ha : PT X a (Tt g W fa)) (hb : PW X (.BoolOp .Or (b :: rest) pos) (Tt g W fb)) : PW X (.BoolOp .Or (a :: b :: rest) pos) (Tt g W (orB fa fb)) :=
  PW.imp (pw_or ha hb) fun σ H Q h => Tt_mono (Tt_bind h) fun c H1 q => by
    cases c with
    | true => exact Tt_pure q
    | false => exact q
theorem t_not (ha : PT X a (Tt g W fa)) : PT X (.UnaryOp .Not a pos) (Tt g W (notB fa)) :=
  PT.imp (pt_not ha) fun σ H Q h => Tt_mono (Tt_bind h) fun c H1 q => Tt_pure q
/-- as values: the parts are bools -/
theorem Tb_run {fb : M Bool} {σ : L2.St} {H : Hp} {Q : Bool → Hp → Prop} (h : Tt g W fb σ H Q) : T g W (blO fb) σ H fun x H1 => ∃ k, x = .bl k ∧ Q k H1 := by
  obtain ⟨F, Gx, ρ, st, r⟩ := h
  refine ⟨F, Gx, ρ, st, ?_⟩
  unfold Rn blO M.bind at *
  cases q : fb ρ with
  | none => rw [q] at r; exact r
  | some p =>
    obtain ⟨r1, ρ'⟩ := p
    rw [q] at r
    cases r1 with
    | ex e => exact r
    | ok b =>
      intro H' F' le v st'
      have rv := st'.gd.val (B := slL σ ρ')
      rw [RepV] at rv
      exact ⟨b, rv, r H' F' le st'.drop1⟩
theorem e_and {fa fb : M Bool} (ha : PE X a (T g W (blO fa))) (hb : PE X (.BoolOp .And (b :: rest) pos) (T g W (blO fb))) : PE X (.BoolOp .And (a :: b :: rest) pos) (T g W (blO (andB fa fb))) :=
  PE.imp (pe_and ha hb) fun σ H Q h => Tb_run (Tt_mono (Tt_bind (T_bl h)) fun c H1 q => by
    cases c with
    | true =>
      have q := Tb_run q
      obtain ⟨F, Gx, ρ, st, r⟩ := q
      exact ⟨F, Gx, ρ, st, r.mono fun o H' F' ρ' le q v st' => by obtain ⟨k, rfl, q⟩ := q v st'; exact q⟩
    | false => exact Tt_pure q)
theorem e_or {fa fb : M Bool} (ha : PE X a (T g W (blO fa))) (hb : PE X (.BoolOp .Or (b :: rest) pos) (T g W (blO fb))) : PE X (.BoolOp .Or (a :: b :: rest) pos) (T g W (blO (orB fa fb))) :=
  PE.imp (pe_or ha hb) fun σ H Q h => Tb_run (Tt_mono (Tt_bind (T_bl h)) fun c H1 q => by
    cases c with
    | true => exact Tt_pure q
    | false =>
      have q := Tb_run q
      obtain ⟨F, Gx, ρ, st, r⟩ := q
      exact ⟨F, Gx, ρ, st, r.mono fun o H' F' ρ' le q v st' => by obtain ⟨k, rfl, q⟩ := q v st'; exact q⟩)
theorem e_not {fa : M Bool} (ha : PE X a (T g W (blO fa))) : PE X (.UnaryOp .Not a pos) (T g W (blO (notB fa))) :=
  PE.imp (pe_not ha) fun σ H Q h => Tb_run (Tt_mono (Tt_bind (T_bl h)) fun c H1 q => Tt_pure q)
/-- a value that is a bool -/
theorem e_asb (h : PE X e (T g W fo)) : PE X e (T g W (blO (fo.bind asB))) := PE.imp h fun σ H Q h => by
  have h1 := Tt_val (T_bl h)
  obtain ⟨F, Gx, ρ, st, r⟩ := T.look h1
  exact ⟨F, Gx, ρ, st, r.mono fun o H' F' ρ' le q v st' => by obtain ⟨k, rfl, q⟩ := q v st'; exact q⟩
theorem e_ite {fc : M Bool} {fx fy : M O} (hc : PT X c (Tt g W fc)) (ha : PE X a (T g W fx)) (hb : PE X b (T g W fy)) : PE X (.IfExp c a b pos) (T g W (iteM fc fx fy)) :=
  PE.imp (pe_ifExp hc ha hb) fun σ H Q ⟨F, Gx, ρ, st, r⟩ => ⟨F, Gx, ρ, st, r.bind.mono fun c H' F' ρ' le r1 st' => by
    cases c with
    | true => exact ⟨F', Gx, ρ', st', r1⟩
    | false => exact ⟨F', Gx, ρ', st', r1⟩⟩
/-- a < b < c -/
def chainF (C C' : O → O → Option Bool) (fa fb fc : M O) : M Bool := fa.bind fun x => fb.bind fun y => (M.of (C x y)).bind fun k => if k = true then fc.bind fun z => M.of (C' y z) else M.pure false
end

/-! ### argument lists, displays -/
def nilA : M (List O) := M.pure []
def consA (f : M O) (fs : M (List O)) : M (List O) := f.bind fun o => fs.bind fun os => M.pure (o :: os)
def tupM (os : List O) : M O := if os.length ≤ lim then M.pure (.val (.tup (fzs os))) else M.stuck
def lstM (os : List O) : M O := if os.length ≤ lim then M.pure (.lst os) else M.stuck
section
variable {g : Gv} {W : WX} {X : Cx} {ca : Ca} {e : Expr} {es : List Expr} {f : M O} {fs : M (List O)} {pos : Pos} {k : Nat}
theorem a_nil : PA X [] (TL g W nilA) := PA.imp pa_nil fun σ H Q ⟨F, Gx, ρ, st, r⟩ => r.pure H F (Le.refl F) [] rfl st
theorem a_cons (ha : PE X e (T g W f)) (hr : PA X es (TL g W fs)) (hs : starEach (e :: es) X.env = (false, eval e X.env) :: starEach es X.env := by rfl) : PA X (e :: es) (TL g W (consA f fs)) :=
  PA.imp (pa_cons ha hr hs) fun σ H Q ⟨F, Gx, ρ, st, r⟩ => by
    refine ⟨F, Gx, ρ, st, r.bind.mono fun o H1 F1 ρ1 le r1 v st1 => ?_⟩
    obtain ⟨Gx', st1', back⟩ := st1.aside
    refine ⟨F1, Gx', ρ1, st1', (r1.aside fun H' F' ρ' le q => (back H' F' ρ' [] le q).drop1).bind.mono fun os H2 F2 ρ2 le2 r2 vs hl st2 => ?_⟩
    exact r2.pure H2 F2 (Le.refl _) (v :: vs) (by simp [hl]) (back H2 F2 ρ2 _ le2 st2)
theorem e_tup (h : PA X es (TL g W fs)) : PE X (.Tuple es k pos) (T g W (fs.bind tupM)) :=
  PE.imp (pe_tup h) fun σ H Q ⟨F, Gx, ρ, st, r⟩ => by
    refine ⟨F, Gx, ρ, st, r.bind.mono fun os H1 F1 ρ1 le r1 vs hl st1 => ?_⟩
    unfold tupM at r1
    split at r1
    · rename_i hz
      obtain ⟨F2, le2, g2, rv⟩ := Good.freezeL (B := slL σ ρ1) hl st1.gd
      have st2 : StG g H1 F2 Gx σ ρ1 [] := ⟨st1.wf, st1.len, g2⟩
      refine ⟨lim_le (by omega), ?_⟩
      refine Yd.tup (F := F2) (fun v H' F' le3 st3 => r1.pure H' F' (le2.trans le3) v st3) st2 rv
    · obtain ⟨_, _, e⟩ := r1.run; cases e
theorem e_lst (h : PA X es (TL g W fs)) : PE X (.List es pos) (T g W (fs.bind lstM)) :=
  PE.imp (pe_lst h) fun σ H Q ⟨F, Gx, ρ, st, r⟩ => by
    refine ⟨F, Gx, ρ, st, r.bind.mono fun os H1 F1 ρ1 le r1 vs hl st1 => ?_⟩
    unfold lstM at r1
    split at r1
    · rename_i hz
      refine ⟨lim_le (by omega), fun p hp => r1.pure _ F1 (Le.refl _) (.ref p) ⟨st1.wf, st1.len, Good.newP (A := vs.zip os) (L := slL σ ρ1) st1.gd hp fun S1 S h1 h2 h3 h4 => ?_⟩⟩
      rw [RepO]
      exact ⟨p, vs, rfl, h3, upd_same, RepOs.sup g (fun a h => ⟨h4 a h, h1 a h⟩) (RepL.toOs hl h2)⟩
    · obtain ⟨_, _, e⟩ := r1.run; cases e
end

/-! ### arguments that are looked at -/
def ViewL (g : Gv) (H F : Hp) : List O → List V → Prop
  | [], vs => vs = []
  | o :: os, vs => ∃ v r S, vs = v :: r ∧ RepO g H F o v S ∧ ViewL g H F os r
def TLR (g : Gv) (W : WX) (f : M (List O)) : TA := fun σ H Q => ∃ F Gx ρ, StG g H F Gx σ ρ [] ∧ Rn g W f σ H F Gx ρ fun os H' F' ρ' => ∀ vs, StG g H' F' Gx σ ρ' [] → ViewL g H' F' os vs → Q vs H'
def one (f : M O) : M (List O) := f.bind fun o => M.pure [o]
def two (f : M (O × O)) : M (List O) := f.bind fun p => M.pure [p.1, p.2]
def rF (g : Gv) (G : List O → Option O) : List V → Hp → VK → Prop := fun vs H Q => ∃ F Gx σ ρ os res, StG g H F Gx σ ρ [] ∧ ViewL g H F os vs ∧ G os = some res ∧ Yd g H F Gx σ ρ res Q
section
variable {g : Gv} {W : WX} {X : Cx} {ca : Ca} {e e2 : Expr} {es : List Expr} {ta tb : TE} {f : M O} {f2 : M (O × O)} {fs : M (List O)} {pos p : Pos} {x : Str}
theorem r_one (ha : PE X e (TR g W f)) (hs : starEach [e] X.env = (false, eval e X.env) :: starEach [] X.env := by rfl) : PA X [e] (TLR g W (one f)) :=
  PA.imp (pa_cons ha pa_nil hs) fun σ H Q ⟨F, Gx, ρ, st, r⟩ => ⟨F, Gx, ρ, st, r.bind.mono fun o H1 F1 ρ1 le r1 v S st1 rv => r1.pure H1 F1 (Le.refl _) [v] st1 ⟨v, [], S, rfl, rv, rfl⟩⟩
theorem r_two (pr : Pr g W ta tb f2) (ha : PE X e ta) (hb : PE X e2 tb) (hs : starEach [e, e2] X.env = (false, eval e X.env) :: starEach [e2] X.env := by rfl) (hs2 : starEach [e2] X.env = (false, eval e2 X.env) :: starEach [] X.env := by rfl) : PA X [e, e2] (TLR g W (two f2)) :=
  PA.imp (pa_cons ha (pa_cons hb pa_nil hs2) hs) fun σ H Q ⟨F, Gx, ρ, st, r⟩ => pr σ H _ ⟨F, Gx, ρ, st, r.bind.mono fun p H1 F1 ρ1 le r1 x y S1 S2 st1 rx ry => r1.pure H1 F1 (Le.refl _) [x, y] st1 ⟨x, [y], S1, rfl, rx, y, [], S2, rfl, ry, rfl⟩⟩
/-- handed on, so looked at -/
theorem r_ofL (h : PA X es (TL g W fs)) : PA X es (TLR g W (fs.bind fun os => if os.length ≤ lim then M.pure (os.map fun o => .val (fz o)) else M.stuck)) :=
  PA.imp h fun σ H Q ⟨F, Gx, ρ, st, r⟩ => by
    refine ⟨F, Gx, ρ, st, r.bind.mono fun os H1 F1 ρ1 le r1 vs hl st1 => ?_⟩
    split at r1
    · obtain ⟨F2, le2, g2, rv⟩ := Good.freezeL (B := slL σ ρ1) hl st1.gd
      refine r1.pure H1 F2 le2 vs ⟨st1.wf, st1.len, g2⟩ ?_
      have key : ∀ (os : List O) (vs : List V), RepVs g F2 (fzs os) vs → ViewL g H1 F2 (os.map fun o => .val (fz o)) vs := by
        intro os
        induction os with
        | nil => intro vs h; rw [fzs, RepVs] at h; exact h
        | cons o os ih =>
          intro vs h
          rw [fzs, RepVs] at h
          obtain ⟨v, w, rfl, h1, h2⟩ := h
          exact ⟨v, w, fun _ => False, rfl, by rw [RepO]; exact h1, ih w h2⟩
      exact key os vs rv
    · obtain ⟨_, _, e⟩ := r1.run; cases e
theorem rF_run {G : List O → Option O} {σ : L2.St} {H : Hp} {Q : VK} (h : T g W (fs.bind fun os => M.of (G os)) σ H Q) : TLR g W fs σ H fun vs H1 => rF g G vs H1 Q := by
  obtain ⟨F, Gx, ρ, st, r⟩ := h
  refine ⟨F, Gx, ρ, st, r.bind.mono fun os H1 F1 ρ1 le r1 vs st1 vw => ?_⟩
  obtain ⟨res, e, q⟩ := r1.of
  exact ⟨F1, Gx, σ, ρ1, os, res, st1, vw, e, fun v H2 F2 le2 st2 => q H2 F2 le2 v st2⟩
def biF (G : List O → Option O) (fs : M (List O)) : M O := fs.bind fun os => M.of (G os)
theorem e_callB {id : String} {G : List O → Option O} (hc : CallR X (.builtin id) (rF (gv X ca) G)) (hg : Gl X x) (hm : X.mg x = none) (hv : bootBuiltins x = some (.builtin id)) (ha : PA X (e :: es) (TLR (gv X ca) W fs)) (hn : x ≠ "__name__" := by decide) (hdb : (x == ("__debug__" : Str)) = false := by decide)
    (he : starEach (e :: es) X.env = (false, eval e X.env) :: starEach es X.env := by rfl) (hpl : (backTo pos (starEach es X.env)).any (·.1) = false := by rfl) : PE X (.Call (.Name x p) (e :: es) [] pos) (T (gv X ca) W (biF G fs)) :=
  PE.imp (pe_callB hc hg hm hv ha hn hdb he hpl) fun σ H Q h => rF_run h
theorem e_callTy {T' : String} {G : List O → Option O} (hc : CallR X (.type T') (rF (gv X ca) G)) (hg : Gl X x) (hm : X.mg x = none) (hv : bootBuiltins x = some (.type T')) (ha : PA X (e :: es) (TLR (gv X ca) W fs)) (hn : x ≠ "__name__" := by decide) (hdb : (x == ("__debug__" : Str)) = false := by decide)
    (he : starEach (e :: es) X.env = (false, eval e X.env) :: starEach es X.env := by rfl) (hpl : (backTo pos (starEach es X.env)).any (·.1) = false := by rfl) : PE X (.Call (.Name x p) (e :: es) [] pos) (T (gv X ca) W (biF G fs)) :=
  PE.imp (pe_callTy hc hg hm hv ha hn hdb he hpl) fun σ H Q h => rF_run h
end

/-! ### items, slices -/
def itV : Option O → Option O
  | some (.val d) => some (.val d)
  | _ => none
/-- a[i] -/
def idxG : O → O → Option O
  | .val (.scr ns), .val (.int i) => (atI ns i).map fun n => .val (.int n)
  | .val (.tup ds), .val (.int i) => (atI ds i).map .val
  | .val (.str z), .val (.int i) => if z.length ≤ lim then (atI z.cps.toList i).map fun c => .val (.str ⟨#[c]⟩) else none
  | .val (.lst ds), .val (.int i) => (atI ds i).map .val
  | .lst os, .val (.int i) => itV (atI os i)
  | _, _ => none
def cutL {α : Type} (xs : List α) (lo hi : Option Int) : List α := (xs.drop (HT.sIx xs.length 0 lo)).take (HT.sIx xs.length xs.length hi - HT.sIx xs.length 0 lo)
def sliG (a : O) (lo hi : Option Int) : Option O := match a with
  | .val (.tup ds) => some (.val (.tup (cutL ds lo hi)))
  | .val (.str z) => if z.length ≤ lim then some (.val (.str (cutS z lo hi))) else none
  | a => match a.dsL with
    | some ds => some (.lst ((cutL ds lo hi).map .val))
    | none => none
section
variable {g : Gv} {H F : Hp}
theorem RepVs.atI {ds : List D} {vs : List V} {i : Int} {d : D} (r : RepVs g F ds vs) (e : atI ds i = some d) : ∃ v, L2.atI vs i = some v ∧ RepV g F d v := by
  unfold L2.atI at e ⊢
  obtain ⟨j, h1, h2⟩ := Option.bind_eq_some_iff.mp e
  obtain ⟨v, h3, h4⟩ := r.get h2
  exact ⟨v, by rw [r.length, h1]; exact h3, h4⟩
theorem RepOs.length : ∀ {os : List O} {vs : List V} {S : Addr → Prop}, RepOs g H F os vs S → vs.length = os.length
  | [], _, _, h => by rw [RepOs] at h; rw [h]; rfl
  | o :: os, _, _, h => by
    rw [RepOs] at h
    obtain ⟨v, r, S1, S2, rfl, _, _, h⟩ := h
    rw [List.length_cons, List.length_cons, RepOs.length h]
theorem RepOs.get : ∀ {os : List O} {vs : List V} {S : Addr → Prop} {i : Nat} {o : O}, RepOs g H F os vs S → os[i]? = some o → ∃ v S', vs[i]? = some v ∧ RepO g H F o v S'
  | [], vs, S, i, d, r, e => by simp at e
  | x :: ds, vs, S, 0, d, r, e => by
    rw [RepOs] at r
    obtain ⟨v, w, S1, S2, rfl, sp, r1, r3⟩ := r
    simp at e; subst e
    exact ⟨v, S1, by simp, r1⟩
  | x :: ds, vs, S, i + 1, d, r, e => by
    rw [RepOs] at r
    obtain ⟨v, w, S1, S2, rfl, sp, r1, r3⟩ := r
    obtain ⟨u, S', h1, h2⟩ := RepOs.get (i := i) (o := d) r3 (by simpa using e)
    exact ⟨u, S', by simpa using h1, h2⟩
theorem RepOs.atI {os : List O} {vs : List V} {S : Addr → Prop} {i : Int} {o : O} (r : RepOs g H F os vs S) (e : atI os i = some o) : ∃ v S', L2.atI vs i = some v ∧ RepO g H F o v S' := by
  unfold L2.atI at e ⊢
  obtain ⟨j, h1, h2⟩ := Option.bind_eq_some_iff.mp e
  obtain ⟨v, S', h3, h4⟩ := r.get h2
  exact ⟨v, S', by rw [r.length, h1]; exact h3, h4⟩
theorem RepVs.cut {ds : List D} {vs : List V} (r : RepVs g F ds vs) (lo hi : Option Int) : RepVs g F (cutL ds lo hi) (cutV vs lo hi) := by
  unfold cutL cutV
  rw [r.length]
  exact (r.drop _).take _
theorem cut_nop {α : Type} (xs : List α) (lo hi : Option Int) (h : HT.sIx xs.length 0 lo = 0 ∧ HT.sIx xs.length xs.length hi = xs.length) : cutL xs lo hi = xs := by
  unfold cutL
  rw [h.1, h.2]
  simp
theorem atI_map {α β : Type} (f : α → β) (xs : List α) (i : Int) : L2.atI (xs.map f) i = (L2.atI xs i).map f := by
  unfold L2.atI
  rw [List.length_map]
  cases ixN xs.length i with
  | none => rfl
  | some j => simp
end
section
variable {W : WX} {X : Cx} {ca : Ca} {a b : Expr} {ta tb : TE} {f : M (O × O)} {pos p2 : Pos}
theorem ix_idxG : IxR X (rB (gv X ca) idxG) := by
  intro value slice pins s σ H x y v u Q I rx ry ⟨F, Gx, σ', ρ, oa, ob, S1, S2, res, st, ra, rb, e, yd⟩ hs
  unfold idxG at e
  split at e
  · obtain ⟨n, hn, rfl⟩ := Option.map_eq_some_iff.mp e
    cases rb.intV
    rw [RepO, RepV] at ra
    obtain ⟨p, rfl, q⟩ := ra
    exact ix_list value slice pins s σ H _ _ v u Q I rx ry ⟨p, _, _, .int n, rfl, rfl, SqL.mono st.le q, by rw [atI_map, hn]; rfl, yd.val st repI⟩ hs
  · obtain ⟨d, hd, rfl⟩ := Option.map_eq_some_iff.mp e
    cases rb.intV
    obtain ⟨p, vs, rfl, q, rv⟩ := dsT_ok st.le ra rfl
    obtain ⟨w, hw, rw'⟩ := rv.atI hd
    exact ix_tup value slice pins s σ H _ _ v u Q I rx ry ⟨p, vs, _, w, rfl, rfl, q, hw, yd.val st rw'⟩ hs
  · split at e
    · rename_i hz
      obtain ⟨c, hc, rfl⟩ := Option.map_eq_some_iff.mp e
      cases rb.intV; cases ra.strV
      exact ix_str value slice pins s σ H _ _ v u Q I rx ry ⟨_, _, c, rfl, rfl, lim_le hz, hc, yd.val st repS⟩ hs
    · cases e
  · obtain ⟨d, hd, rfl⟩ := Option.map_eq_some_iff.mp e
    cases rb.intV
    obtain ⟨p, vs, rfl, q, rv⟩ := dsL_ok st.le ra rfl
    obtain ⟨w, hw, rw'⟩ := rv.atI hd
    exact ix_list value slice pins s σ H _ _ v u Q I rx ry ⟨p, vs, _, w, rfl, rfl, SqL.of q, hw, yd.val st rw'⟩ hs
  · rename_i os i
    cases rb.intV
    rw [RepO] at ra
    obtain ⟨p, vs, rfl, sa, q, rv⟩ := ra
    cases ho : atI os i with
    | none => rw [ho] at e; cases e
    | some o =>
      rw [ho] at e
      cases o with
      | val d =>
        cases e
        obtain ⟨w, S', hw, rw'⟩ := rv.atI ho
        rw [RepO] at rw'
        exact ix_list value slice pins s σ H _ _ v u Q I rx ry ⟨p, vs, _, w, rfl, rfl, SqL.of q, hw, yd.val st rw'⟩ hs
      | _ => cases e
  · cases e
theorem e_idx (p : Pr (gv X ca) W ta tb f) (ha : PE X a ta) (hb : PE X b tb) (hs : PlainIx b := by exact fun _ _ => rfl) : PE X (.Subscript a b pos) (T (gv X ca) W (binF idxG f)) :=
  PE.imp (pe_ix ix_idxG ha hb hs) fun σ H Q ⟨F, Gx, ρ, st, r⟩ => p σ H _ ⟨F, Gx, ρ, st, r.bind.mono fun p H' F' ρ' le r1 x y S1 S2 st' rx ry => by
    obtain ⟨res, e, q⟩ := r1.of
    exact ⟨F', Gx, σ, ρ', _, _, S1, S2, res, st', rx, ry, e, fun v H2 F2 le2 st2 => q H2 F2 le2 v st2⟩⟩
def rSl (g : Gv) : V → Option Int → Option Int → Hp → VK → Prop := fun x lo hi H Q => ∃ F Gx σ ρ oa S1 res, StG g H F Gx σ ρ [] ∧ RepO g H F oa x S1 ∧ sliG oa lo hi = some res ∧ Yd g H F Gx σ ρ res Q
theorem sl_sliG : SlR X (rSl (gv X ca)) := by
  intro pins s σ H x v vl vu lo hi sl Q I rx hs pl pu ⟨F, Gx, σ', ρ, oa, S1, res, st, ra, e, yd⟩
  unfold sliG at e
  split at e
  · cases e
    obtain ⟨p, vs, rfl, q, rv⟩ := dsT_ok st.le ra rfl
    refine sl_tupA pins s σ H _ v vl vu lo hi sl Q I rx hs pl pu ⟨p, vs, rfl, q, fun h0 => ?_, fun h0 => yd.tup st (rv.cut lo hi)⟩
    rw [rv.length] at h0
    rw [cut_nop _ lo hi h0] at yd
    rw [RepO] at ra
    exact yd.val st ra
  · split at e
    · rename_i hz
      cases e
      cases ra.strV
      exact sl_str pins s σ H _ v vl vu lo hi sl Q I rx hs pl pu ⟨_, rfl, lim_le hz, yd.val st repS⟩
    · cases e
  · split at e
    · rename_i ds hd
      cases e
      obtain ⟨p, vs, rfl, q, rv⟩ := dsL_ok st.le ra hd
      exact sl_list pins s σ H _ v vl vu lo hi sl Q I rx hs pl pu ⟨p, vs, rfl, SqL.of q, yd.lst st (rv.cut lo hi)⟩
    · cases e
def TI (g : Gv) (W : WX) (f : M (Option Int)) : TO := fun σ H Q => ∃ F Gx ρ, StG g H F Gx σ ρ [] ∧ Rn g W f σ H F Gx ρ fun i H' F' ρ' => StG g H' F' Gx σ ρ' [] → Q i H'
theorem PO.imp {e : Option Expr} {t t' : TO} (h : PO X e t) (i : ∀ σ H Q, t' σ H Q → t σ H Q) : PO X e t' := ⟨fun pins s σ H Q I q => h.run pins s σ H Q I (i σ H Q q)⟩
theorem p_none {g : Gv} : PO X none (TI g W (M.pure none)) := PO.imp po_none fun σ H Q ⟨F, Gx, ρ, st, r⟩ => r.pure H F (Le.refl F) st
theorem p_some {g : Gv} {e : Expr} {f : M O} (h : PE X e (TR g W f)) : PO X (some e) (TI g W (f.bind asI)) := PO.imp (po_some h) fun σ H Q ⟨F, Gx, ρ, st, r⟩ => by
  refine ⟨F, Gx, ρ, st, r.bind.mono fun o H' F' ρ' le r1 v S st' rv => ?_⟩
  obtain ⟨r2, ρ2, e2⟩ := r1.run
  unfold asI at r1 e2
  split at e2
  · cases rv.intV
    exact ⟨_, rfl, r1.pure H' F' (Le.refl F') st'⟩
  · cases e2
def sliF (f : M O) (fl fh : M (Option Int)) : M O := f.bind fun a => fl.bind fun l => fh.bind fun h => M.of (sliG a l h)
def sliP (i : Nat) (fl fh : M (Option Int)) : M O := (pk i).bind fun _ => fl.bind fun l => fh.bind fun h => (pk i).bind fun a => M.of (sliG a l h)
theorem e_sli {lo hi : Option Expr} {fa : M O} {fl fh : M (Option Int)} (ha : PE X a (T (gv X ca) W fa)) (hl : PO X lo (TI (gv X ca) W fl)) (hh : PO X hi (TI (gv X ca) W fh)) : PE X (.Subscript a (.Slice lo hi none p2) pos) (T (gv X ca) W (sliF fa fl fh)) :=
  PE.imp (pe_slice sl_sliG ha hl hh) fun σ H Q ⟨F, Gx, ρ, st, r⟩ => by
    refine ⟨F, Gx, ρ, st, r.bind.mono fun a H1 F1 ρ1 le r1 v st1 => ?_⟩
    obtain ⟨Gx', st1', back⟩ := st1.aside
    refine ⟨F1, Gx', ρ1, st1', (r1.aside fun H' F' ρ' le q => (back H' F' ρ' [] le q).drop1).bind.mono fun l H2 F2 ρ2 le2 r2 st2 => ?_⟩
    refine ⟨F2, Gx', ρ2, st2, r2.bind.mono fun h H3 F3 ρ3 le3 r3 st3 => ?_⟩
    have st4 := back H3 F3 ρ3 [] (le2.trans le3) st3
    obtain ⟨S1, rv⟩ := Good.view (B := [] ++ slL σ ρ3) st4.gd
    obtain ⟨res, e, q⟩ := r3.of
    exact ⟨F3, Gx, σ, ρ3, a, S1, res, st4.drop1, rv, e, fun v' H' F' le' st' => q H' F' le' v' st'⟩
theorem e_sliP (i : Nat) {lo hi : Option Expr} {fl fh : M (Option Int)} (ha : PE X a (tVar i)) (hl : PO X lo (TI (gv X ca) W fl)) (hh : PO X hi (TI (gv X ca) W fh)) : PE X (.Subscript a (.Slice lo hi none p2) pos) (T (gv X ca) W (sliP i fl fh)) :=
  PE.imp (pe_slice sl_sliG ha hl hh) fun σ H Q ⟨F, Gx, ρ, st, r⟩ => by
    obtain ⟨a0, ha0, r⟩ := r.pk
    obtain ⟨v, hv⟩ := st.wf i a0 ha0
    refine ⟨v, hv, F, Gx, ρ, st, r.bind.mono fun l H2 F2 ρ2 le2 r2 st2 => ?_⟩
    refine ⟨F2, Gx, ρ2, st2, r2.bind.mono fun h H3 F3 ρ3 le3 r3 st3 => ?_⟩
    obtain ⟨a, ha, r3⟩ := r3.pk
    obtain ⟨v', S', hv', rv⟩ := st3.peek ha
    rw [hv] at hv'; cases hv'
    obtain ⟨res, e, q⟩ := r3.of
    exact ⟨F3, Gx, σ, ρ3, a, S', res, st3, rv, e, fun v' H' F' le' st' => q H' F' le' v' st'⟩
end
end PF

set_option Elab.async false
set_option linter.all false
set_option maxRecDepth 100000
set_option maxHeartbeats 2000000
namespace PF
open PySem PySem.Spec PyProof.Rows L2

/-! ### statements -/
inductive Out where
  | nx | rt (o : O) | bk | ct
/-- slots that no statement stores -/
def Pin (pn : List Nat) (σ σ' : L2.St) : Prop := σ'.length = σ.length ∧ ∀ i ∈ pn, σ'[i]? = σ[i]?
theorem Pin.refl {pn : List Nat} (σ : L2.St) : Pin pn σ σ := ⟨rfl, fun _ _ => rfl⟩
theorem Pin.trans {pn : List Nat} {σ σ1 σ2 : L2.St} (a : Pin pn σ σ1) (b : Pin pn σ1 σ2) : Pin pn σ σ2 := ⟨b.1.trans a.1, fun i h => (b.2 i h).trans (a.2 i h)⟩
theorem Pin.set {pn : List Nat} {σ : L2.St} {i : Nat} {s : Option V} (h : i ∉ pn) : Pin pn σ (σ.set i s) := ⟨by simp, fun j hj => by
  have ne : i ≠ j := fun e => h (by rw [e]; exact hj)
  rw [List.getElem?_set_ne ne]⟩
section
variable (g : Gv) (W : WX) (pn : List Nat)
/-- what a statement's run asks -/
def Rs {α : Type} (f : M α) (σ : L2.St) (F Gx : Hp) (ρ : Sls) (R : α → Hp → Hp → L2.St → Sls → Prop) : Prop := match f ρ with
  | none => False
  | some (.ok a, ρ') => ∀ H' F' σ', Le F F' → Pin pn σ σ' → R a H' F' σ' ρ'
  | some (.ex e, ρ') => ∀ H' F' σ' d, Le F F' → Pin pn σ σ' → StG g H' F' Gx σ' ρ' [] → XAt g F' e d → W (.ref (g.ca e.cls)) d σ' H'
def EndR (Gx : Hp) (D : Ends) : Out → Hp → Hp → L2.St → Sls → Prop
  | .nx, H', F', σ', ρ' => StG g H' F' Gx σ' ρ' [] → D.nx σ' H'
  | .bk, H', F', σ', ρ' => StG g H' F' Gx σ' ρ' [] → D.bk σ' H'
  | .ct, H', F', σ', ρ' => StG g H' F' Gx σ' ρ' [] → D.ct σ' H'
  | .rt o, H', F', σ', ρ' => ∀ v, StG g H' F' Gx σ' ρ' [(v, o)] → D.rt v H'
def Ts (f : M Out) : L2.TS := fun D σ H => ∃ F Gx ρ, StG g H F Gx σ ρ [] ∧ Rs g W pn f σ F Gx ρ (EndR g Gx D)
end
section
variable {g : Gv} {W : WX} {pn : List Nat} {α β : Type}
theorem Rs.mono {f : M α} {σ : L2.St} {F Gx : Hp} {ρ : Sls} {R R' : α → Hp → Hp → L2.St → Sls → Prop} (h : Rs g W pn f σ F Gx ρ R) (i : ∀ a H' F' σ' ρ', Le F F' → Pin pn σ σ' → R a H' F' σ' ρ' → R' a H' F' σ' ρ') : Rs g W pn f σ F Gx ρ R' := by
  unfold Rs at h ⊢
  split <;> rename_i q <;> rw [q] at h
  · exact h
  · exact fun H' F' σ' le p => i _ _ _ _ _ le p (h H' F' σ' le p)
  · exact h
theorem Rs.run {f : M α} {σ : L2.St} {F Gx : Hp} {ρ : Sls} {R : α → Hp → Hp → L2.St → Sls → Prop} (h : Rs g W pn f σ F Gx ρ R) : ∃ r ρ', f ρ = some (r, ρ') := by
  unfold Rs at h
  cases q : f ρ with
  | none => rw [q] at h; exact h.elim
  | some p => exact ⟨p.1, p.2, rfl⟩
theorem Rs.ok {f : M α} {σ : L2.St} {F Gx : Hp} {ρ ρ' : Sls} {R : α → Hp → Hp → L2.St → Sls → Prop} {a : α} (h : Rs g W pn f σ F Gx ρ R) (e : f ρ = some (.ok a, ρ')) : ∀ H' F' σ', Le F F' → Pin pn σ σ' → R a H' F' σ' ρ' := by
  unfold Rs at h; rw [e] at h; exact h
theorem Rs.pure {σ : L2.St} {F Gx : Hp} {ρ : Sls} {R : α → Hp → Hp → L2.St → Sls → Prop} {a : α} (h : Rs g W pn (M.pure a) σ F Gx ρ R) : ∀ H' F' σ', Le F F' → Pin pn σ σ' → R a H' F' σ' ρ := h
theorem Rs.bind {f : M α} {k : α → M β} {σ : L2.St} {F Gx : Hp} {ρ : Sls} {R : β → Hp → Hp → L2.St → Sls → Prop} (h : Rs g W pn (f.bind k) σ F Gx ρ R) :
    Rs g W pn f σ F Gx ρ fun a H' F' σ' ρ' => Rs g W pn (k a) σ' F' Gx ρ' R := by
  unfold Rs M.bind at *
  cases q : f ρ with
  | none => rw [q] at h; exact h
  | some p =>
    obtain ⟨r, ρ'⟩ := p
    rw [q] at h
    cases r with
    | ex e => exact h
    | ok a =>
      intro H' F' σ' le p
      show match k a ρ' with | none => False | some (.ok a, ρ') => _ | some (.ex e, ρ') => _
      have h : match k a ρ' with | none => False | some (.ok a, ρ') => ∀ H' F' σ', Le F F' → Pin pn σ σ' → R a H' F' σ' ρ' | some (.ex e, ρ') => ∀ H' F' σ' d, Le F F' → Pin pn σ σ' → StG g H' F' Gx σ' ρ' [] → XAt g F' e d → W (.ref (g.ca e.cls)) d σ' H' := h
      split <;> rename_i q2 <;> rw [q2] at h
      · exact h
      · exact fun H2 F2 σ2 le2 p2 => h H2 F2 σ2 (le.trans le2) (p.trans p2)
      · exact fun H2 F2 σ2 d le2 p2 => h H2 F2 σ2 d (le.trans le2) (p.trans p2)
/-- an expression's run within a statement's -/
theorem Rs.expr {f : M α} {k : α → M β} {σ : L2.St} {H F Gx : Hp} {ρ : Sls} {R : β → Hp → Hp → L2.St → Sls → Prop} (h : Rs g W pn (f.bind k) σ F Gx ρ R) :
    Rn g W f σ H F Gx ρ fun a H' F' ρ' => Rs g W pn (k a) σ F' Gx ρ' R := by
  have h := h.bind
  unfold Rs at h
  unfold Rn
  cases q : f ρ with
  | none => rw [q] at h; exact h
  | some p =>
    obtain ⟨r, ρ'⟩ := p
    rw [q] at h
    cases r with
    | ex e => exact fun H' F' d le st x => h H' F' σ d le (Pin.refl σ) st x
    | ok a => exact fun H' F' le => h H' F' σ le (Pin.refl σ)
theorem Rs.pin {f : M α} {σ σ1 : L2.St} {F Gx : Hp} {ρ : Sls} {R : α → Hp → Hp → L2.St → Sls → Prop} (h : Rs g W pn f σ F Gx ρ R) (p : Pin pn σ σ1) : Rs g W pn f σ1 F Gx ρ R := by
  unfold Rs at h ⊢
  split <;> rename_i q <;> rw [q] at h
  · exact h
  · exact fun H' F' σ' le p2 => h H' F' σ' le (p.trans p2)
  · exact fun H' F' σ' d le p2 => h H' F' σ' d le (p.trans p2)
theorem PS.imp {X : Cx} {st : Stmt} {t t' : L2.TS} (h : PS X st t) (i : ∀ D σ H, t' D σ H → t D σ H) : PS X st t' := ⟨fun pins s σ H D I q => h.run pins s σ H D I (i D σ H q)⟩
theorem PSs.imp {X : Cx} {st : List Stmt} {t t' : L2.TS} (h : PSs X st t) (i : ∀ D σ H, t' D σ H → t D σ H) : PSs X st t' := ⟨fun pins s σ H D I q => h.run pins s σ H D I (i D σ H q)⟩
end
def seqS (f k : M Out) : M Out := f.bind fun o => match o with
  | .nx => k
  | o => M.pure o
/-- a slot is stored -/
def putS (i : Nat) (o : O) : M Unit := fun ρ => if i < ρ.length then some (.ok (), ρ.set i (some o)) else none
def setS (i : Nat) (f : M O) : M Out := f.bind fun o => (putS i o).bind fun _ => M.pure .nx
def retS (f : M O) : M Out := f.bind fun o => M.pure (.rt o)
def exprS (f : M O) : M Out := f.bind fun _ => M.pure .nx
section
variable {g : Gv} {W : WX} {pn : List Nat} {X : Cx} {st : Stmt} {rest : List Stmt} {f k : M Out} {e c : Expr} {pos : Pos}
theorem s_nil : PSs X [] (Ts g W pn (M.pure .nx)) := PSs.imp pss_nil fun D σ H ⟨F, Gx, ρ, st, r⟩ => r.pure H F σ (Le.refl F) (Pin.refl σ) st
theorem s_cons (h1 : PS X st (Ts g W pn f)) (h2 : PSs X rest (Ts g W pn k)) : PSs X (st :: rest) (Ts g W pn (seqS f k)) :=
  PSs.imp (pss_cons h1 h2) fun D σ H ⟨F, Gx, ρ, st, r⟩ => ⟨F, Gx, ρ, st, r.bind.mono fun out H' F' σ' ρ' le p r1 => by
    cases out with
    | nx => exact fun st' => ⟨F', Gx, ρ', st', r1⟩
    | rt o => exact r1.pure H' F' σ' (Le.refl _) (Pin.refl _)
    | bk => exact r1.pure H' F' σ' (Le.refl _) (Pin.refl _)
    | ct => exact r1.pure H' F' σ' (Le.refl _) (Pin.refl _)⟩
theorem s_one (h1 : PS X st (Ts g W pn f)) : PSs X [st] (Ts g W pn f) := pss_one h1
theorem Ts_put {i : Nat} {o : O} {k : M Out} {D : Ends} {σ : L2.St} {H F Gx : Hp} {ρ : Sls} {v : V} (hi : i ∉ pn) (st : StG g H F Gx σ ρ [(v, o)]) (r : Rs g W pn ((putS i o).bind fun _ => k) σ F Gx ρ (EndR g Gx D)) : Ts g W pn k D (σ.set i (some v)) H := by
  by_cases hl : i < ρ.length
  · have e : putS i o ρ = some (.ok (), ρ.set i (some o)) := by unfold putS; rw [if_pos hl]
    exact ⟨F, Gx, ρ.set i (some o), st.store hl, r.bind.ok e H F (σ.set i (some v)) (Le.refl F) (Pin.set hi)⟩
  · exfalso
    obtain ⟨_, _, e⟩ := r.run
    unfold M.bind putS at e
    rw [if_neg hl] at e
    cases e
theorem Ts_nx {D : Ends} {σ : L2.St} {H : Hp} (h : Ts g W pn (M.pure .nx) D σ H) : D.nx σ H := by
  obtain ⟨F, Gx, ρ, st, r⟩ := h
  exact r.pure H F σ (Le.refl F) (Pin.refl σ) st
theorem s_set {i : Nat} {x : Str} {pos' : Pos} {f : M O} (hN : X.N.Nodup) (hi : X.N[i]? = some x) (hx : Loc X.env.scope x) (hp : i ∉ pn) (he : PE X e (T g W f)) (hs : swapsWith e (some (.Name x pos')) pos.line X.env = pure false := by rfl) (hf : X.fn x = true ∨ X.env.scope.names.lookup x = some .local := by first | exact .inl rfl | exact .inr rfl | assumption) :
    PS X (.Assign [.Name x pos'] e pos) (Ts g W pn (setS i f)) :=
  PS.imp (ps_set hN hi hx he hs hf) fun D σ H ⟨F, Gx, ρ, st, r⟩ => ⟨F, Gx, ρ, st, r.expr.mono fun o H' F' ρ' le r1 v st' => Ts_nx (Ts_put hp st' r1)⟩
theorem s_expr {f : M O} (he : PE X e (T g W f)) (hs : swapsWith e none pos.line X.env = pure false := by rfl) : PS X (.Expr e pos) (Ts g W pn (exprS f)) :=
  PS.imp (ps_expr he hs) fun D σ H ⟨F, Gx, ρ, st, r⟩ => ⟨F, Gx, ρ, st, r.expr.mono fun o H' F' ρ' le r1 v st' => r1.pure H' F' σ (Le.refl _) (Pin.refl _) st'.drop1⟩
theorem s_ret {f : M O} (he : PE X e (T g W f)) : PS X (.Return (some e) pos) (Ts g W pn (retS f)) :=
  PS.imp (ps_ret he) fun D σ H ⟨F, Gx, ρ, st, r⟩ => ⟨F, Gx, ρ, st, r.expr.mono fun o H' F' ρ' le r1 v st' => r1.pure H' F' σ (Le.refl _) (Pin.refl _) v st'⟩
theorem s_retN : PS X (.Return none pos) (Ts g W pn (M.pure (.rt (.val .non)))) :=
  PS.imp ps_retN fun D σ H ⟨F, Gx, ρ, st, r⟩ => r.pure H F σ (Le.refl _) (Pin.refl _) .non (st.ofVal repN)
theorem s_if {fc : M Bool} {a b : List Stmt} {fa fb : M Out} (hc : PT X c (Tt g W fc)) (ha : PSs X a (Ts g W pn fa)) (hb : PSs X b (Ts g W pn fb)) : PS X (.If c a b pos) (Ts g W pn (iteM fc fa fb)) :=
  PS.imp (ps_if hc ha hb) fun D σ H ⟨F, Gx, ρ, st, r⟩ => ⟨F, Gx, ρ, st, r.expr.mono fun b H' F' ρ' le r1 st' => by
    cases b with
    | true => exact ⟨F', Gx, ρ', st', r1⟩
    | false => exact ⟨F', Gx, ρ', st', r1⟩⟩
theorem s_pass : PS X (.Pass pos) (Ts g W pn (M.pure .nx)) := PS.imp ps_pass fun D σ H h => Ts_nx h
theorem s_break : PS X (.Break pos) (Ts g W pn (M.pure .bk)) := PS.imp ps_break fun D σ H ⟨F, Gx, ρ, st, r⟩ => r.pure H F σ (Le.refl F) (Pin.refl σ) st
theorem s_continue : PS X (.Continue pos) (Ts g W pn (M.pure .ct)) := PS.imp ps_continue fun D σ H ⟨F, Gx, ρ, st, r⟩ => r.pure H F σ (Le.refl F) (Pin.refl σ) st
theorem s_never : PS X st (Ts g W pn M.stuck) := ⟨fun pins s σ H D I ⟨F, Gx, ρ, st, r⟩ => by obtain ⟨_, _, e⟩ := r.run; cases e⟩
theorem ss_never {sts : List Stmt} : PSs X sts (Ts g W pn M.stuck) := ⟨fun pins s σ H D I ⟨F, Gx, ρ, st, r⟩ => by obtain ⟨_, _, e⟩ := r.run; cases e⟩
theorem e_never : PE X e (T g W M.stuck) := ⟨fun pins s σ H Q I ⟨F, Gx, ρ, st, r⟩ => by obtain ⟨_, _, e⟩ := r.run; cases e⟩
end

/-! ### targets -/
section
variable (g : Gv) (W : WX) (pn : List Nat)
def Tg (h : O → M Unit) : TG := fun v σ H Q => ∃ F Gx ρ o, StG g H F Gx σ ρ [(v, o)] ∧ Rs g W pn (h o) σ F Gx ρ fun _ H' F' σ' ρ' => StG g H' F' Gx σ' ρ' [] → Q σ' H'
/-- several targets, one value each -/
def Tgs (h : List D → M Unit) : TGs := fun vs σ H Q => ∃ F Gx ρ ds, StG g H F Gx σ ρ [] ∧ RepVs g F ds vs ∧ Rs g W pn (h ds) σ F Gx ρ fun _ H' F' σ' ρ' => StG g H' F' Gx σ' ρ' [] → Q σ' H'
end
def nmT (i : Nat) : O → M Unit := putS i
def nilT : List D → M Unit := fun ds => match ds with
  | [] => M.pure ()
  | _ => M.stuck
def consT (h : O → M Unit) (hs : List D → M Unit) : List D → M Unit := fun ds => match ds with
  | d :: ds => (h (.val d)).bind fun _ => hs ds
  | _ => M.stuck
def tupT (n : Nat) (hs : List D → M Unit) : O → M Unit := fun o => match o with
  | .val (.tup ds) => if ds.length = n then hs ds else M.stuck
  | _ => M.stuck
def asgS (f : M O) (h : O → M Unit) : M Out := f.bind fun o => (h o).bind fun _ => M.pure .nx
section
variable {g : Gv} {W : WX} {pn : List Nat} {X : Cx} {ca : Ca} {tg e : Expr} {es : List Expr} {h : O → M Unit} {hs : List D → M Unit} {pos : Pos}
theorem PG.imp {t t' : TG} (h : PG X tg t) (i : ∀ v σ H Q, t' v σ H Q → t v σ H Q) : PG X tg t' := ⟨fun pins s σ H v u Q I r q => h.run pins s σ H v u Q I r (i v σ H Q q)⟩
theorem PGs.imp {t t' : TGs} (h : PGs X es t) (i : ∀ v σ H Q, t' v σ H Q → t v σ H Q) : PGs X es t' := ⟨fun pins s σ H v u Q I r q => h.run pins s σ H v u Q I r (i v σ H Q q)⟩
theorem put_run {i : Nat} {o : O} {σ : L2.St} {F Gx : Hp} {ρ : Sls} {R : Unit → Hp → Hp → L2.St → Sls → Prop} (r : Rs g W pn (putS i o) σ F Gx ρ R) : i < ρ.length ∧ ∀ H' F' σ', Le F F' → Pin pn σ σ' → R () H' F' σ' (ρ.set i (some o)) := by
  by_cases hl : i < ρ.length
  · exact ⟨hl, r.ok (by unfold putS; rw [if_pos hl])⟩
  · exfalso
    obtain ⟨_, _, e⟩ := r.run
    unfold putS at e
    rw [if_neg hl] at e
    cases e
theorem g_name {i : Nat} {x : Str} (hN : X.N.Nodup) (hi : X.N[i]? = some x) (hx : Loc X.env.scope x) (hp : i ∉ pn) (hf : X.fn x = true ∨ X.env.scope.names.lookup x = some .local := by first | exact .inl rfl | exact .inr rfl | assumption) : PG X (.Name x pos) (Tg g W pn (nmT i)) :=
  PG.imp (pg_name hN hi hx hf) fun v σ H Q ⟨F, Gx, ρ, o, st, r⟩ => by
    obtain ⟨hl, q⟩ := put_run r
    exact q H F _ (Le.refl F) (Pin.set hp) (st.store hl)
theorem gs_nil : PGs X [] (Tgs g W pn nilT) := PGs.imp pgs_nil fun vs σ H Q ⟨F, Gx, ρ, ds, st, rv, r⟩ => by
  cases ds with
  | nil => rw [RepVs] at rv; exact ⟨rv, r.pure H F σ (Le.refl F) (Pin.refl σ) st⟩
  | cons d ds => obtain ⟨_, _, e⟩ := r.run; cases e
theorem gs_cons (h1 : PG X e (Tg g W pn h)) (h2 : PGs X es (Tgs g W pn hs)) (hst : (assignEach (e :: es) X.env).map (·.2) = assign e X.env :: (assignEach es X.env).map (·.2) := by rfl) : PGs X (e :: es) (Tgs g W pn (consT h hs)) :=
  PGs.imp (pgs_cons h1 h2 hst) fun vs σ H Q ⟨F, Gx, ρ, ds, st, rv, r⟩ => by
    cases ds with
    | nil => obtain ⟨_, _, e⟩ := r.run; cases e
    | cons d ds =>
      rw [RepVs] at rv
      obtain ⟨v, w, rfl, r1, r2⟩ := rv
      refine ⟨v, w, rfl, F, Gx, ρ, .val d, st.ofVal r1, r.bind.mono fun _ H' F' σ' ρ' le p q st' => ⟨F', Gx, ρ', ds, st', RepVs.mono g le _ _ r2, q⟩⟩
theorem g_tup {k n : Nat} (hc : X.calm = true) (hh : PGs X es (Tgs (gv X ca) W pn hs)) (hn : (assignEach es X.env).length = n := by rfl) (hst : (assignEach es X.env).findIdx? (·.1) = none := by rfl) : PG X (.Tuple es k pos) (Tg (gv X ca) W pn (tupT n hs)) :=
  PG.imp (pg_tup hc hh hn hst) fun v σ H Q ⟨F, Gx, ρ, o, st, r⟩ => by
    obtain ⟨_, _, e⟩ := r.run
    unfold tupT at r e
    split at r
    · rename_i ds
      split at r
      · rename_i hl
        have rv := st.gd.val (B := slL σ ρ)
        rw [RepV] at rv
        obtain ⟨a, vs, rfl, q, rvs⟩ := rv
        exact ⟨a, vs, rfl, SqT.mono st.le q, by rw [rvs.length]; exact hl, F, Gx, ρ, ds, st.drop1, rvs, r⟩
      · rename_i hl
        simp only [hl] at e; cases e
    · simp at e; cases e
theorem s_asg {f : M O} (he : PE X e (T g W f)) (hg : PG X tg (Tg g W pn h)) (hs : swapsWithSole [tg] e pos.line X.env = pure false := by rfl) (hw : swappedStores [tg] e X.env = pure none := by rfl)
    (h1 : (assignEach [tg] X.env).map (·.2) = [assign tg X.env] := by rfl) : PS X (.Assign [tg] e pos) (Ts g W pn (asgS f h)) :=
  PS.imp (ps_asg he hg hs hw h1) fun D σ H ⟨F, Gx, ρ, st, r⟩ => ⟨F, Gx, ρ, st, r.expr.mono fun o H' F' ρ' le r1 v st' => ⟨F', Gx, ρ', o, st', r1.bind.mono fun _ H2 F2 σ2 ρ2 le2 p2 r2 st2 => r2.pure H2 F2 σ2 (Le.refl _) (Pin.refl _) st2⟩⟩
end

/-! ### what a def promises -/
def mask : List Bool → Sls → Sls
  | true :: ms, s :: ρ => s :: mask ms ρ
  | false :: ms, _ :: ρ => none :: mask ms ρ
  | _, _ => []
def spOf (g : Gv) (ms : List Bool) (sem : M O) : Sp := fun vs H Q E => vs.length = ms.length ∧ ∃ F Gx ρ, StG g H F Gx (vs.map some) ρ [] ∧ match sem ρ with
  | none => False
  | some (.ok o, ρ') => ∀ v H' F', Le F F' → StG g H' F' Gx (vs.map some) (mask ms ρ') [(v, o)] → Q v H'
  | some (.ex e, ρ') => ∀ d H' F', Le F F' → StG g H' F' Gx (vs.map some) (mask ms ρ') [] → XAt g F' e d → E (.ref (g.ca e.cls)) d H'
/-- a def's run: n slots, the parameters first -/
def defM (n : Nat) (f : M Out) : M O := fun ρ => match f (ρ ++ List.replicate (n - ρ.length) none) with
  | some (.ok (.rt o), ρ') => some (.ok o, ρ')
  | some (.ok .nx, ρ') => some (.ok (.val .non), ρ')
  | some (.ex e, ρ') => some (.ex e, ρ')
  | _ => none
def Fn (Ms : List Bool) (k : Nat) : Prop := True
/-- the slots that are handed back -/
def pinOf : Nat → List Bool → List Nat
  | _, [] => []
  | i, true :: ms => i :: pinOf (i + 1) ms
  | i, false :: ms => pinOf (i + 1) ms
theorem pinOf_mem : ∀ (ms : List Bool) (i j : Nat), ms[j]? = some true → i + j ∈ pinOf i ms
  | [], i, j, h => by simp at h
  | true :: ms, i, 0, h => by simp [pinOf]
  | false :: ms, i, 0, h => by simp at h
  | b :: ms, i, j + 1, h => by
    have q := pinOf_mem ms (i + 1) j (by simpa using h)
    have e : i + 1 + j = i + (j + 1) := by omega
    rw [e] at q
    cases b
    · exact q
    · exact List.mem_cons_of_mem _ q
/-- some slots of others -/
theorem slL_sub : ∀ (ms : List Bool) (σ τ : L2.St) (ρ : Sls), τ.length = ms.length → σ.length = ρ.length → (∀ (j : Nat), ms[j]? = some true → σ[j]? = τ[j]?) → ∃ rest, (slL σ ρ).Perm (slL τ (mask ms ρ) ++ rest)
  | [], σ, [], ρ, _, _, _ => ⟨slL σ ρ, by simp [mask, slL]⟩
  | b :: ms, [], t :: τ, ρ, h1, h2, h3 => by
    have e : ρ = [] := List.eq_nil_of_length_eq_zero (by simpa using h2.symm)
    subst e
    refine ⟨[], ?_⟩
    cases b <;> simp [mask, slL]
  | b :: ms, s :: σ, t :: τ, [], h1, h2, h3 => by simp at h2
  | false :: ms, s :: σ, t :: τ, r :: ρ, h1, h2, h3 => by
    obtain ⟨rest, ih⟩ := slL_sub ms σ τ ρ (by simpa using h1) (by simpa using h2) fun j hj => by simpa using h3 (j + 1) (by simpa using hj)
    rw [mask, slL_none]
    cases s with
    | none => rw [slL_drop]; exact ⟨rest, ih⟩
    | some v =>
      cases r with
      | none => rw [slL_none]; exact ⟨rest, ih⟩
      | some o => exact ⟨(v, o) :: rest, (ih.cons (v, o)).trans List.perm_middle.symm⟩
  | true :: ms, s :: σ, t :: τ, r :: ρ, h1, h2, h3 => by
    obtain ⟨rest, ih⟩ := slL_sub ms σ τ ρ (by simpa using h1) (by simpa using h2) fun j hj => by simpa using h3 (j + 1) (by simpa using hj)
    have e : s = t := by simpa using h3 0 (by simp)
    subst e
    rw [mask]
    cases s with
    | none => rw [slL_drop, slL_drop]; exact ⟨rest, ih⟩
    | some v =>
      cases r with
      | none => rw [slL_none, slL_none]; exact ⟨rest, ih⟩
      | some o => exact ⟨rest, ih.cons (v, o)⟩
  | [], σ, _ :: _, ρ, h, _, _ => by simp at h
  | _ :: _, _, [], _, h, _, _ => by simp at h
theorem mask_len : ∀ (ms : List Bool) (ρ : Sls), ms.length ≤ ρ.length → (mask ms ρ).length = ms.length
  | [], ρ, _ => by simp [mask]
  | true :: ms, r :: ρ, h => by simp [mask, mask_len ms ρ (by simpa using h)]
  | false :: ms, r :: ρ, h => by simp [mask, mask_len ms ρ (by simpa using h)]
  | _ :: _, [], h => by simp at h
theorem StG.masked {g : Gv} {H F Gx : Hp} {σ : L2.St} {ρ : Sls} {L : List (V × O)} {ms : List Bool} {vs : List V} (st : StG g H F Gx σ ρ L) (h1 : vs.length = ms.length) (h2 : ms.length ≤ ρ.length) (h3 : ∀ (j : Nat), ms[j]? = some true → σ[j]? = (vs.map some)[j]?) : StG g H F Gx (vs.map some) (mask ms ρ) L := by
  obtain ⟨rest, p⟩ := slL_sub ms σ (vs.map some) ρ (by simpa using h1) st.len h3
  refine ⟨fun i o e => ?_, by rw [mask_len _ _ h2, List.length_map, h1], ?_⟩
  · have hl : i < (mask ms ρ).length := (List.getElem?_eq_some_iff.mp e).1
    rw [mask_len _ _ h2] at hl
    exact ⟨vs[i], by simp [h1, hl]⟩
  · have z := (st.gd.perm (p.append_left L))
    have z2 : Good g H F Gx ((L ++ slL (vs.map some) (mask ms ρ)) ++ rest) := by rw [List.append_assoc]; exact z
    exact z2.dropR
/-- more slots, nothing in them -/
theorem slL_more : ∀ (σ : L2.St) (ρ : Sls) (n : Nat), σ.length = ρ.length → slL (σ ++ List.replicate n none) (ρ ++ List.replicate n none) = slL σ ρ
  | [], [], n, _ => by
    induction n with
    | zero => rfl
    | succ n ih => rw [List.nil_append, List.nil_append] at *; rw [List.replicate_succ, List.replicate_succ, slL_none]; exact ih
  | s :: σ, r :: ρ, n, h => by
    have ih := slL_more σ ρ n (by simpa using h)
    cases s with
    | none => rw [List.cons_append, List.cons_append, slL_drop, slL_drop]; exact ih
    | some v =>
      cases r with
      | none => rw [List.cons_append, List.cons_append, slL_none, slL_none]; exact ih
      | some o => show (v, o) :: slL (σ ++ _) (ρ ++ _) = (v, o) :: slL σ ρ; rw [ih]
  | [], _ :: _, _, h => by simp at h
  | _ :: _, [], _, h => by simp at h
section
variable {P : Program} {w : World} {K : PySem.W.Frag} {mg : Str → Option Value} {base : Heap} {g : Gv}
theorem spOf_len {ms : List Bool} {sem : M O} : ∀ vs H Q E, spOf g ms sem vs H Q E → vs.length = ms.length := fun _ _ _ _ h => h.1
/-- a def keeps its promise if its body runs so -/
theorem d_ok {x qual : Str} {st : Stmt} {f : Addr} {fd : FuncData} {N ps : List Str} {k : Nat} {ca : Ca} {ms : List Bool} {b : M Out} (Fu : Fun K x qual st f fd) (S : FnScope N ps (defScope st)) (hl : ms.length = ps.length) (hN : ms.length ≤ N.length)
    (hbody : ∀ (cdv : Value) (A : Around) (outer : List Env) (s : Shared) (H : Hp) (E : XK), Room k (A.deeper (envOfC qual (defScope st) s.heap.objs.size f cdv)) →
      PSs (cxOf (L2.CX P w) P w K mg base N qual (defScope st) f cdv A outer s H E) (defBody st) (Ts ⟨P, w, K, ca⟩ (fun c d _ H => E c d H) (pinOf 0 ms) b)) :
    FnOk P w K mg base (L2.CX P w) (k + 1) f fd ps (spOf ⟨P, w, K, ca⟩ ms (defM N.length b)) := by
  refine Fu.okX S (fun vs H Q E h => h.1.trans hl) (fun cdv A outer s H vs Q E hr h => ⟨_, hbody cdv A outer s H E hr, ?_⟩)
  obtain ⟨hv, F, Gx, ρ, st, q⟩ := h
  have hlen : vs.length = ρ.length := by simpa using st.len
  have st' : StG ⟨P, w, K, ca⟩ H F Gx (L2.start N vs) (ρ ++ List.replicate (N.length - ρ.length) none) [] := by
    unfold L2.start
    rw [hlen]
    refine ⟨fun i o e => ?_, by simp [hlen], ?_⟩
    · by_cases hi : i < ρ.length
      · rw [List.getElem?_append_left hi] at e
        obtain ⟨v, hv⟩ := st.wf i o e
        exact ⟨v, by rw [List.getElem?_append_left (by simpa [hlen] using hi)]; exact hv⟩
      · rw [List.getElem?_append_right (by omega), List.getElem?_replicate] at e
        split at e <;> cases e
    · rw [slL_more _ _ _ (by simpa using hlen)]
      exact st.gd
  have pn : ∀ (σ' : L2.St), Pin (pinOf 0 ms) (L2.start N vs) σ' → ∀ (j : Nat), ms[j]? = some true → σ'[j]? = (vs.map some)[j]? := fun σ' hp j hj => by
    have hj2 : j < ms.length := (List.getElem?_eq_some_iff.mp hj).1
    have m := pinOf_mem ms 0 j hj
    rw [Nat.zero_add] at m
    rw [hp.2 j m]
    unfold L2.start
    rw [List.getElem?_append_left (by simp; omega)]
  refine ⟨F, Gx, _, st', ?_⟩
  unfold defM at q
  unfold Rs
  cases e : b (ρ ++ List.replicate (N.length - ρ.length) none) with
  | none => rw [e] at q; exact q
  | some p =>
    obtain ⟨r, ρ'⟩ := p
    rw [e] at q
    have wide : ∀ {H' F' : Hp} {σ' : L2.St} {L : List (V × O)}, StG ⟨P, w, K, ca⟩ H' F' Gx σ' ρ' L → Pin (pinOf 0 ms) (L2.start N vs) σ' → StG ⟨P, w, K, ca⟩ H' F' Gx (vs.map some) (mask ms ρ') L := fun st2 hp => by
      have hl2 : ms.length ≤ ρ'.length := by
        rw [← st2.len, hp.1]
        unfold L2.start
        simp
        omega
      exact st2.masked hv hl2 (pn _ hp)
    cases r with
    | ex x => exact fun H' F' σ' d le hp st2 hx => q d H' F' le (wide st2 hp) hx
    | ok out =>
      intro H' F' σ' le hp
      cases out with
      | nx => exact fun st2 => q .non H' F' le ((wide st2 hp).ofVal repN)
      | rt o => exact fun v st2 => q v H' F' le (wide st2 hp)
      | bk => exact q.elim
      | ct => exact q.elim
end
end PF

set_option Elab.async false
set_option linter.all false
set_option maxRecDepth 100000
set_option maxHeartbeats 2000000
namespace PF
open PySem PySem.Spec PyProof.Rows L2

/-! ### arguments: handed on (none), or a slot's own thing (some i) -/
def Mrg : List (Option Nat) → List V → L2.St → List V → Prop
  | [], us, _, vs => us = [] ∧ vs = []
  | none :: ks, us, σ, vs => ∃ u us' vs', us = u :: us' ∧ vs = u :: vs' ∧ Mrg ks us' σ vs'
  | some i :: ks, us, σ, vs => ∃ v vs', σ[i]? = some (some v) ∧ vs = v :: vs' ∧ Mrg ks us σ vs'
def TLm (g : Gv) (W : WX) (ks : List (Option Nat)) (fs : M (List O)) : TA := fun σ H Q => ∃ F Gx ρ, StG g H F Gx σ ρ [] ∧ Rn g W fs σ H F Gx ρ fun os H' F' ρ' => ∀ us vs, us.length = os.length → Mrg ks us σ vs → StG g H' F' Gx σ ρ' (us.zip os) → Q vs H'
def refA (i : Nat) (fs : M (List O)) : M (List O) := (pk i).bind fun _ => fs
section
variable {g : Gv} {W : WX} {X : Cx} {e : Expr} {es : List Expr} {f : M O} {fs : M (List O)} {ks : List (Option Nat)}
theorem m_nil : PA X [] (TLm g W [] nilA) := PA.imp pa_nil fun σ H Q ⟨F, Gx, ρ, st, r⟩ => r.pure H F (Le.refl F) [] [] rfl ⟨rfl, rfl⟩ st
theorem m_cons (ha : PE X e (T g W f)) (hr : PA X es (TLm g W ks fs)) (hs : starEach (e :: es) X.env = (false, eval e X.env) :: starEach es X.env := by rfl) : PA X (e :: es) (TLm g W (none :: ks) (consA f fs)) :=
  PA.imp (pa_cons ha hr hs) fun σ H Q ⟨F, Gx, ρ, st, r⟩ => by
    refine ⟨F, Gx, ρ, st, r.bind.mono fun o H1 F1 ρ1 le r1 v st1 => ?_⟩
    obtain ⟨Gx', st1', back⟩ := st1.aside
    refine ⟨F1, Gx', ρ1, st1', (r1.aside fun H' F' ρ' le q => (back H' F' ρ' [] le q).drop1).bind.mono fun os H2 F2 ρ2 le2 r2 us vs hl mg st2 => ?_⟩
    exact r2.pure H2 F2 (Le.refl _) (v :: us) (v :: vs) (by simp [hl]) ⟨v, us, vs, rfl, rfl, mg⟩ (back H2 F2 ρ2 _ le2 st2)
theorem m_ref (i : Nat) (ha : PE X e (tVar i)) (hr : PA X es (TLm g W ks fs)) (hs : starEach (e :: es) X.env = (false, eval e X.env) :: starEach es X.env := by rfl) : PA X (e :: es) (TLm g W (some i :: ks) (refA i fs)) :=
  PA.imp (pa_cons ha hr hs) fun σ H Q ⟨F, Gx, ρ, st, r⟩ => by
    obtain ⟨a0, ha0, r⟩ := r.pk
    obtain ⟨v, hv⟩ := st.wf i a0 ha0
    exact ⟨v, hv, F, Gx, ρ, st, r.mono fun os H1 F1 ρ1 le q us vs hl mg st1 => q us (v :: vs) hl ⟨v, vs, hv, rfl, mg⟩ st1⟩
end
def bld : List (Option Nat) → List O → Sls → Option (Sls × Sls)
  | [], [], ρ => some ([], ρ)
  | none :: ks, o :: os, ρ => (bld ks os ρ).map fun p => (some o :: p.1, p.2)
  | some i :: ks, os, ρ => match ρ[i]? with
    | some (some o) => (bld ks os (ρ.set i none)).map fun p => (some o :: p.1, p.2)
    | _ => none
  | _, _, _ => none
def unbld : List (Option Nat) → Sls → Sls → Sls
  | none :: ks, _ :: c, ρ => unbld ks c ρ
  | some i :: ks, r :: c, ρ => unbld ks c (ρ.set i r)
  | _, _, ρ => ρ
def refs : List (Option Nat) → List Nat
  | [] => []
  | none :: ks => refs ks
  | some i :: ks => i :: refs ks
theorem set_self {ρ : Sls} {i : Nat} {r : Option O} (h : ρ[i]? = some r) : ρ.set i r = ρ := by
  refine List.ext_getElem? fun j => ?_
  by_cases hj : i = j
  · subst hj; rw [List.getElem?_set_self (List.getElem?_eq_some_iff.mp h).1, h]
  · rw [List.getElem?_set_ne hj]
theorem bld_ok : ∀ {ks : List (Option Nat)} {os : List O} {ρ c ρr : Sls} {us vs : List V} {σ : L2.St}, bld ks os ρ = some (c, ρr) → Mrg ks us σ vs → us.length = os.length → SlW σ ρ →
    (us.zip os ++ slL σ ρ).Perm (slL (vs.map some) c ++ slL σ ρr) ∧ vs.length = c.length ∧ ρr.length = ρ.length ∧ SlW σ ρr ∧ (refs ks).Nodup ∧ (∀ i ∈ refs ks, ρr[i]? = some none) ∧ (∀ i, ρ[i]? = some none → ρr[i]? = some none ∧ i ∉ refs ks) ∧ vs.length = ks.length
  | [], [], ρ, c, ρr, us, vs, σ, h, m, hl, w => by
    obtain ⟨rfl, rfl⟩ := m
    simp only [bld, Option.some.injEq, Prod.mk.injEq] at h
    obtain ⟨rfl, rfl⟩ := h
    exact ⟨by simp [slL], rfl, rfl, w, by simp [refs], by simp [refs], fun i hi => ⟨hi, by simp [refs]⟩, rfl⟩
  | [], o :: os, ρ, c, ρr, us, vs, σ, h, m, hl, w => by simp [bld] at h
  | none :: ks, [], ρ, c, ρr, us, vs, σ, h, m, hl, w => by simp [bld] at h
  | none :: ks, o :: os, ρ, c, ρr, us, vs, σ, h, m, hl, w => by
    obtain ⟨u, us', vs', rfl, rfl, m⟩ := m
    rw [bld] at h
    obtain ⟨⟨c1, ρ1⟩, h1, h2⟩ := Option.map_eq_some_iff.mp h
    simp only [Prod.mk.injEq] at h2
    obtain ⟨rfl, rfl⟩ := h2
    obtain ⟨p, l1, l2, w2, nd, hn, hk, hkl⟩ := bld_ok h1 m (by simpa using hl) w
    exact ⟨p.cons (u, o), by simp [l1], l2, w2, by simpa [refs] using nd, by simpa [refs] using hn, by simpa [refs] using hk, by simp [hkl]⟩
  | some i :: ks, os, ρ, c, ρr, us, vs, σ, h, m, hl, w => by
    obtain ⟨v, vs', hv, rfl, m⟩ := m
    rw [bld] at h
    split at h
    · rename_i o ho
      obtain ⟨⟨c1, ρ1⟩, h1, h2⟩ := Option.map_eq_some_iff.mp h
      simp only [Prod.mk.injEq] at h2
      obtain ⟨rfl, rfl⟩ := h2
      obtain ⟨p, l1, l2, w2, nd, hn, hk, hkl⟩ := bld_ok h1 m hl w.hole
      have hi : i < ρ.length := (List.getElem?_eq_some_iff.mp ho).1
      obtain ⟨hk1, hk2⟩ := hk i (by simp [hi])
      refine ⟨?_, by simp [l1], by simpa using l2, w2, ?_, ?_, fun j hj => ?_, by simp [hkl]⟩
      · have q := (slL_get hv ho).append_left (us.zip os)
        exact q.trans (List.perm_middle.trans (p.cons (v, o)))
      · rw [refs]; exact List.nodup_cons.mpr ⟨hk2, nd⟩
      · rw [refs]
        intro j hj
        rcases List.mem_cons.mp hj with rfl | hj
        · exact hk1
        · exact hn j hj
      · have hne : i ≠ j := fun e => by subst e; rw [ho] at hj; cases hj
        obtain ⟨a, b⟩ := hk j (by rw [List.getElem?_set_ne hne]; exact hj)
        refine ⟨a, ?_⟩
        rw [refs, List.mem_cons, not_or]
        exact ⟨fun e => hne e.symm, b⟩
    · cases h
theorem unbld_ok : ∀ {ks : List (Option Nat)} {ms : List Bool} {c ρ : Sls} {us vs : List V} {σ : L2.St}, Mrg ks us σ vs → c.length = ks.length → (refs ks).Nodup → (∀ i ∈ refs ks, ρ[i]? = some none) → SlW σ ρ → SlW (vs.map some) c →
    ∃ rest, (slL (vs.map some) c ++ slL σ ρ).Perm (slL σ (unbld ks c ρ) ++ rest) ∧ SlW σ (unbld ks c ρ) ∧ (unbld ks c ρ).length = ρ.length
  | [], ms, c, ρ, us, vs, σ, m, hl, nd, hn, w, wc => by
    obtain ⟨rfl, rfl⟩ := m
    have : c = [] := List.eq_nil_of_length_eq_zero (by simpa using hl)
    subst this
    exact ⟨[], by simp [slL, unbld], w, rfl⟩
  | none :: ks, ms, [], ρ, us, vs, σ, m, hl, nd, hn, w, wc => by simp at hl
  | some _ :: ks, ms, [], ρ, us, vs, σ, m, hl, nd, hn, w, wc => by simp at hl
  | none :: ks, ms, r :: c, ρ, us, vs, σ, m, hl, nd, hn, w, wc => by
    obtain ⟨u, us', vs', rfl, rfl, m⟩ := m
    have wc' : SlW (vs'.map some) c := fun i o e => by simpa using wc (i + 1) o (by simpa using e)
    obtain ⟨rest, p, w2, l2⟩ := unbld_ok (ms := ms) m (by simpa using hl) (by simpa [refs] using nd) (by simpa [refs] using hn) w wc'
    rw [unbld, List.map_cons]
    cases r with
    | none => rw [slL_none]; exact ⟨rest, p, w2, l2⟩
    | some o => exact ⟨(u, o) :: rest, (p.cons (u, o)).trans List.perm_middle.symm, w2, l2⟩
  | some i :: ks, ms, r :: c, ρ, us, vs, σ, m, hl, nd, hn, w, wc => by
    obtain ⟨v, vs', hv, rfl, m⟩ := m
    have wc' : SlW (vs'.map some) c := fun i o e => by simpa using wc (i + 1) o (by simpa using e)
    rw [refs] at nd hn
    obtain ⟨nd1, nd2⟩ := List.nodup_cons.mp nd
    have hi := hn i (by simp)
    have hil : i < ρ.length := (List.getElem?_eq_some_iff.mp hi).1
    have hn' : ∀ j ∈ refs ks, (ρ.set i r)[j]? = some none := fun j hj => by
      rw [List.getElem?_set_ne (fun e => nd1 (by rw [e]; exact hj))]
      exact hn j (by simp [hj])
    rw [unbld, List.map_cons]
    cases r with
    | none =>
      rw [set_self hi] at hn' ⊢
      obtain ⟨rest, p, w2, l2⟩ := unbld_ok (ms := ms) m (by simpa using hl) nd2 hn' w wc'
      rw [slL_none]
      exact ⟨rest, p, w2, l2⟩
    | some o =>
      obtain ⟨rest, p, w2, l2⟩ := unbld_ok (ms := ms) m (by simpa using hl) nd2 hn' (w.put hv) wc'
      refine ⟨rest, ?_, w2, by simpa using l2⟩
      have q := slL_get (σ := σ) (ρ := ρ.set i (some o)) (o := o) hv (by simp [hil])
      rw [List.set_set, set_self hi] at q
      exact (List.perm_middle.symm.trans (q.symm.append_left _)).trans p
def callF (ks : List (Option Nat)) (fs : M (List O)) (ms : List Bool) (sem : M O) : M O := fs.bind fun os => fun ρ => match bld ks os ρ with
  | none => none
  | some (c, ρr) => match sem c with
    | none => none
    | some (r, c') => some (r, unbld ks (mask ms c') ρr)
section
variable {g : Gv} {W : WX} {σ : L2.St}
/-- what a call's run asks is what the callee's promise asks -/
theorem call_run {ks : List (Option Nat)} {ms : List Bool} {sem : M O} {os : List O} {H F Gx : Hp} {ρ : Sls} {us vs : List V} {Q : VK} (hms : ms.length = ks.length) (hl : us.length = os.length) (m : Mrg ks us σ vs) (st : StG g H F Gx σ ρ (us.zip os))
    (r : Rn g W (fun ρ => match bld ks os ρ with
      | none => none
      | some (c, ρr) => match sem c with
        | none => none
        | some (r, c') => some (r, unbld ks (mask ms c') ρr)) σ H F Gx ρ fun o H' F' ρ' => ∀ v, StG g H' F' Gx σ ρ' [(v, o)] → Q v H') :
    spOf g ms sem vs H Q (WE W σ) := by
  unfold Rn at r
  cases hb : bld ks os ρ with
  | none => simp [hb] at r
  | some p =>
    obtain ⟨c, ρr⟩ := p
    simp only [hb] at r
    obtain ⟨pm, l1, l2, w2, nd, hn, _, hkl⟩ := bld_ok hb m hl st.wf
    have gd : Good g H F Gx (slL (vs.map some) c ++ slL σ ρr) := st.gd.perm pm
    obtain ⟨Gx', gc, back⟩ := gd.aside
    have wc : SlW (vs.map some) c := fun i o e => by
      have hi : i < c.length := (List.getElem?_eq_some_iff.mp e).1
      exact ⟨vs[i]'(by omega), by simp [l1, hi]⟩
    refine ⟨by rw [hkl, hms], F, Gx', c, ⟨wc, by simp [l1], gc⟩, ?_⟩
    have fin : ∀ {H' F' : Hp} {c' : Sls} {L : List (V × O)}, Le F F' → StG g H' F' Gx' (vs.map some) (mask ms c') L → StG g H' F' Gx σ (unbld ks (mask ms c') ρr) L := fun {H' F' c' L} le st' => by
      have g2 := back H' F' _ le st'.gd
      have hcl : (mask ms c').length = ks.length := by rw [← st'.len]; simp [hkl]
      obtain ⟨rest, p2, w3, l3⟩ := unbld_ok (ms := ms) m hcl nd hn w2 st'.wf
      refine ⟨w3, by rw [l3, l2]; exact st.len, ?_⟩
      rw [List.append_assoc] at g2
      have g3 : Good g H' F' Gx ((L ++ slL σ (unbld ks (mask ms c') ρr)) ++ rest) := by
        rw [List.append_assoc]; exact g2.perm (p2.append_left L)
      exact g3.dropR
    cases hs : sem c with
    | none => simp [hs] at r
    | some q =>
      obtain ⟨rz, c'⟩ := q
      simp only [hs] at r
      cases rz with
      | ok o => exact fun v H' F' le st' => r H' F' le v (fin le st')
      | ex e => exact fun d H' F' le st' x => r H' F' d le (fin le st') x
end
section
variable {W : WX} {X : Cx} {ca : Ca} {k : Nat} {f C : Addr} {fd : FuncData} {ps : List Str} {ms : List Bool} {sem : M O} {x m : Str} {p pos apos : Pos} {e o : Expr} {es : List Expr} {ks : List (Option Nat)} {fs : M (List O)}
theorem e_call (Fo : FnOk X.prog X.w X.K X.mg X.base (L2.CX X.prog X.w) k f fd ps (spOf (gv X ca) ms sem)) (hr : Room k X.A) (hg : Gl X x) (hm : X.mg x = some (.ref f)) (hk : PySem.W.keepIn X.K (.ref f) = true) (hb : Binds X.K fd ps []) (tk : Takes X W)
    (hms : ms.length = ks.length) (ha : PA X (e :: es) (TLm (gv X ca) W ks fs)) (hdb : (x == ("__debug__" : Str)) = false := by decide) (he : starEach (e :: es) X.env = (false, eval e X.env) :: starEach es X.env := by rfl) (hpl : (backTo pos (starEach es X.env)).any (·.1) = false := by rfl) :
    PE X (.Call (.Name x p) (e :: es) [] pos) (T (gv X ca) W (callF ks fs ms sem)) :=
  PE.imp (pe_callSD (E := WE W) (dvs := []) (ds := []) Fo hr hg hm hk hb .nil (fun σ => passAt tk σ) ha hdb he hpl) fun σ H Q ⟨F, Gx, ρ, st, r⟩ =>
    ⟨F, Gx, ρ, st, r.bind.mono fun os H1 F1 ρ1 le r1 us vs hl m st1 => by
      show spOf (gv X ca) ms sem (vs ++ []) H1 Q (WE W σ)
      rw [List.append_nil]
      exact call_run hms hl m st1 r1⟩
/-! methods -/
def tMethSD (C : Addr) (m : Str) (sp : Sp) (E : L2.St → XK) (ta : TE) (t : TA) : TE := fun σ H Q => ta σ H fun x H1 => ∃ a dx fs, x = .ref a ∧ H1 a = some (.ins C dx fs) ∧ fs.lookup m = none ∧ t σ H1 fun vs H2 => sp (x :: vs) H2 Q (E σ)
theorem pe_methSD {CX : CXT} {sp : Sp} {E : L2.St → XK} {ta : TE} {t : TA} {pl : Sem Bool} (he : PE X o ta) (c : Cls X.K C) (hm : Meth X.K C m f) (F : FnOk X.prog X.w X.K X.mg X.base CX k f fd ps sp) (hr : Room k X.A) (hb : Binds X.K fd ps []) (hx : ∀ σ, PassesAt CX X σ (E σ)) (ha : PA X (e :: es) t)
    (hst : starEach (e :: es) X.env = (false, eval e X.env) :: starEach es X.env := by rfl) (hpl : (backTo pos (starEach es X.env)).any (·.1) = false := by rfl)
    (ht : eval (.Call (.Attribute o m apos) (e :: es) [] pos) X.env = (do
      let ov ← eval o X.env
      standAt apos.atName
      let (f, first) ← holding [ov] (getMethod ov m pl)
      callWith pos f first (backTo pos (starEach (e :: es) X.env)) (backToKw pos (keywordEach [] X.env))) := by rfl) :
    PE X (.Call (.Attribute o m apos) (e :: es) [] pos) (tMethSD C m sp E ta t) := by
  refine ⟨fun pins s σ H Q I h => ?_⟩
  refine PySem.W.methodCall_KW (pl := pl) (thn (he.run pins s σ H _ I h) fun u s1 ⟨x, H1, I1, rx, a, dx, fs, ex, ea, l, q⟩ => ?_) ht
  subst ex
  obtain rfl : u = Value.ref a := rx
  refine getmeth_ok I1 ea c hm l ?_
  refine PySem.W.callWith_K (first := [.ref a]) (h₀ := X.base) I.ok.mod.kin hm.kp (thn (ha.run pos pins s1 σ H1 _ I1 q) fun us s2 ⟨vs, H2, I2, r, q2⟩ => ⟨I2.kIn, ?_⟩) hst hpl
  exact run_fnSD (us := .ref a :: us) (vs := .ref a :: vs) (dvs := []) F hr hb .nil (hx σ) I2 (.cons rfl r) (by rw [List.append_nil]; exact q2)
theorem pe_meth0SD {CX : CXT} {sp : Sp} {E : L2.St → XK} {ta : TE} {pl : Sem Bool} (he : PE X o ta) (c : Cls X.K C) (hm : Meth X.K C m f) (F : FnOk X.prog X.w X.K X.mg X.base CX k f fd ps sp) (hr : Room k X.A) (hb : Binds X.K fd ps []) (hx : ∀ σ, PassesAt CX X σ (E σ))
    (ht : eval (.Call (.Attribute o m apos) [] [] pos) X.env = (do
      let ov ← eval o X.env
      standAt apos.atName
      let (f, first) ← holding [ov] (getMethod ov m pl)
      callWith pos f first (backTo pos (starEach [] X.env)) (backToKw pos (keywordEach [] X.env))) := by rfl) :
    PE X (.Call (.Attribute o m apos) [] [] pos) (tMethSD C m sp E ta tNil) := by
  refine ⟨fun pins s σ H Q I h => ?_⟩
  refine PySem.W.methodCall_KW (pl := pl) (thn (he.run pins s σ H _ I h) fun u s1 ⟨x, H1, I1, rx, a, dx, fs, ex, ea, l, q⟩ => ?_) ht
  subst ex
  obtain rfl : u = Value.ref a := rx
  refine getmeth_ok I1 ea c hm l ?_
  exact PySem.W.callWith_K0 (first := [.ref a]) I1.kIn hm.kp (run_fnSD (us := [.ref a]) (vs := [.ref a]) (dvs := []) F hr hb .nil (hx σ) I1 (.cons rfl .nil) q)
end
end PF

set_option Elab.async false
set_option linter.all false
set_option maxRecDepth 100000
set_option maxHeartbeats 2000000
namespace PF
open PySem PySem.Spec PyProof.Rows L2

/-! ### what is walked -/
structure ItG (g : Gv) (J : It) (C : Hp → Hp → Prop) (ds : List D) : Prop where
  go : ∀ i H F, i < ds.length → C H F → J.go i H
  stop : ∀ H F, C H F → J.stop ds.length H
  yld : ∀ (i : Nat) (d : D) H F Gx σ ρ L x H', ds[i]? = some d → C H F → StG g H F Gx σ ρ L → J.yld i H x H' → ∃ F', Le F F' ∧ StG g H' F' Gx σ ρ L ∧ RepV g F' d x
/-- the source is frozen -/
def Fz (F0 : Hp) (H F : Hp) : Prop := Le F0 F ∧ Le F H
/-- the source is a list that stands at a -/
def At (g : Gv) (a : Addr) (ds : List D) (H F : Hp) : Prop := ∃ vs, H a = some (.lst vs) ∧ RepVs g F ds vs
theorem at_fz {g : Gv} {F0 : Hp} {a : Addr} {vs : List V} {ds : List D} (h : F0 a = some (.lst vs)) (r : RepVs g F0 ds vs) : ∀ H F, Fz F0 H F → At g a ds H F := fun H F z => ⟨vs, z.2 _ _ (z.1 _ _ h), RepVs.mono g z.1 _ _ r⟩
def enumD (ds : List D) : List D := ds.zipIdx.map fun p => .tup [.int p.2, p.1]
def signsD (x : Str) : List D := x.cps.toList.map fun c => .str ⟨#[c]⟩
section
variable {g : Gv} {C : Hp → Hp → Prop} {F0 : Hp} {ds es : List D} {vs us : List V} {a b : Addr}
theorem ItG.imp {J : It} {C C' : Hp → Hp → Prop} (it : ItG g J C ds) (h : ∀ H F, C' H F → C H F) : ItG g J C' ds := ⟨fun i H F hi c => it.go i H F hi (h _ _ c), fun H F c => it.stop H F (h _ _ c), fun i d H F Gx σ ρ L x H' hd c => it.yld i d H F Gx σ ρ L x H' hd (h _ _ c)⟩
theorem itg_list : ItG g (Itl g.K a) (At g a ds) ds where
  go := fun i H F hi ⟨vs, hb, r⟩ => ⟨vs, vs[i]'(by rw [r.length]; exact hi), SqL.of hb, by simp [r.length, hi]⟩
  stop := fun H F ⟨vs, hb, r⟩ => ⟨vs, SqL.of hb, by rw [r.length]; exact Nat.le_refl _⟩
  yld := fun i d H F Gx σ ρ L x H' hd ⟨vs, hb, r⟩ st y => by
    obtain ⟨rfl, y⟩ := y
    obtain ⟨v, h1, h2⟩ := r.get hd
    have e := y vs (SqL.of hb)
    rw [h1] at e; cases e
    exact ⟨F, Le.refl F, st, h2⟩
theorem itg_tup (hb : SqT g.K F0 a vs) (r : RepVs g F0 ds vs) : ItG g (Itt g.K a) (Fz F0) ds where
  go := fun i H F hi z => ⟨vs, vs[i]'(by rw [r.length]; exact hi), SqT.mono z.2 (SqT.mono z.1 hb), by simp [r.length, hi]⟩
  stop := fun H F z => ⟨vs, SqT.mono z.2 (SqT.mono z.1 hb), by rw [r.length]; exact Nat.le_refl _⟩
  yld := fun i d H F Gx σ ρ L x H' hd z st y => by
    obtain ⟨rfl, y⟩ := y
    obtain ⟨v, h1, h2⟩ := r.get hd
    have e := y vs (SqT.mono z.2 (SqT.mono z.1 hb))
    rw [h1] at e; cases e
    exact ⟨F, Le.refl F, st, RepV.mono g z.1 _ _ h2⟩
def rangeD (lo : Int) (n : Nat) : List D := (List.range n).map fun (i : Nat) => .int (lo + (i : Int))
theorem itg_range (lo : Int) (n : Nat) : ItG g (Itr lo n) C (rangeD lo n) where
  go := fun i H F hi le => by
    have hi : i < n := by simpa [rangeD] using hi
    exact hi
  stop := fun H F le => by
    show n ≤ (rangeD lo n).length
    simp [rangeD]
  yld := fun i d H F Gx σ ρ L x H' hd le st y => by
    obtain ⟨rfl, rfl⟩ := y
    have hd' : d = .int (lo + (i : Int)) := by
      unfold rangeD at hd
      rw [List.getElem?_map] at hd
      cases q : (List.range n)[i]? with
      | none => rw [q] at hd; cases hd
      | some j =>
        rw [q] at hd
        cases hd
        obtain ⟨h1, h2⟩ := List.getElem?_eq_some_iff.mp q
        simp at h2
        rw [h2]
    subst hd'
    exact ⟨F, Le.refl F, st, repI⟩
theorem itg_rangeC (lo c : Int) (n : Nat) : ItG g (Itc lo c n) C ((List.range n).map fun (i : Nat) => .int (lo + (i : Int) * c)) where
  go := fun i H F hi le => by
    have hi : i < n := by simpa using hi
    exact hi
  stop := fun H F le => by
    show n ≤ _
    simp
  yld := fun i d H F Gx σ ρ L x H' hd le st y => by
    obtain ⟨rfl, rfl⟩ := y
    have hd' : d = .int (lo + (i : Int) * c) := by
      rw [List.getElem?_map] at hd
      cases q : (List.range n)[i]? with
      | none => rw [q] at hd; cases hd
      | some j =>
        rw [q] at hd
        cases hd
        obtain ⟨h1, h2⟩ := List.getElem?_eq_some_iff.mp q
        simp at h2
        rw [h2]
    subst hd'
    exact ⟨F, Le.refl F, st, repI⟩
theorem itg_str (x : Str) : ItG g (Its x) C (signsD x) where
  go := fun i H F hi le => by simpa [signsD, Its] using hi
  stop := fun H F le => by simp [signsD, Its]
  yld := fun i d H F Gx σ ρ L v H' hd le st y => by
    obtain ⟨rfl, c, hc, rfl⟩ := y
    have hd' : d = .str ⟨#[c]⟩ := by
      unfold signsD at hd
      rw [List.getElem?_map, Array.getElem?_toList, hc] at hd
      cases hd; rfl
    subst hd'
    exact ⟨F, Le.refl F, st, repS⟩
theorem enum_at {i : Nat} {d : D} (h : (enumD ds)[i]? = some d) : ∃ x, ds[i]? = some x ∧ d = .tup [.int (i : Nat), x] := by
  unfold enumD at h
  rw [List.getElem?_map, List.getElem?_zipIdx] at h
  cases q : ds[i]? with
  | none => rw [q] at h; cases h
  | some x => rw [q] at h; simp at h; exact ⟨x, rfl, h.symm⟩
theorem newPair {H F Gx : Hp} {σ : L2.St} {ρ : Sls} {L : List (V × O)} {T : Addr} {x y : D} {v u : V} (st : StG g H F Gx σ ρ L) (hT : H T = none) (r1 : RepV g F x v) (r2 : RepV g F y u) : ∃ F', Le F F' ∧ StG g (upd H T (.tup [v, u])) F' Gx σ ρ L ∧ RepV g F' (.tup [x, y]) (.ref T) := by
  obtain ⟨le, st2⟩ := st.newF (u := .tup [v, u]) hT
  refine ⟨_, le, st2, ?_⟩
  rw [RepV]
  refine ⟨T, _, rfl, SqT.of upd_same, ?_⟩
  rw [RepVs]
  refine ⟨_, _, rfl, RepV.mono g le _ _ r1, ?_⟩
  rw [RepVs]
  exact ⟨_, _, rfl, RepV.mono g le _ _ r2, by rw [RepVs]⟩
theorem itg_enumL : ItG g (Ite g.K a) (At g a ds) (enumD ds) where
  go := fun i H F hi ⟨vs, hb, r⟩ => by
    have hi : i < ds.length := by simpa [enumD] using hi
    exact ⟨vs, vs[i]'(by rw [r.length]; exact hi), SqL.of hb, by simp [r.length, hi]⟩
  stop := fun H F ⟨vs, hb, r⟩ => ⟨vs, SqL.of hb, by rw [r.length]; simp [enumD]⟩
  yld := fun i d H F Gx σ ρ L x H' hd ⟨vs, hb, r⟩ st y => by
    obtain ⟨T, v, rfl, hT, rfl, y⟩ := y
    obtain ⟨x, hx, rfl⟩ := enum_at hd
    obtain ⟨u, h1, h2⟩ := r.get hx
    have e := y vs (SqL.of hb)
    rw [h1] at e; cases e
    exact newPair st hT repI h2
end

/-! ### for -/
def forL (h : O → M Unit) (fb : M Out) : List D → M Out
  | [] => M.pure .nx
  | d :: ds => (h (.val d)).bind fun _ => fb.bind fun out => match out with
    | .bk => M.pure .nx
    | .rt o => M.pure (.rt o)
    | _ => forL h fb ds
section
variable {g : Gv} {W : WX} {pn : List Nat} {h : O → M Unit} {fb : M Out}
theorem for_core {J : It} {ds : List D} {C : Hp → Hp → Prop} {F Gx H : Hp} {σ : L2.St} {ρ : Sls} {D : Ends} (it : ItG g J C ds) (hC : ∀ H' F' σ' ρ' L', Le F F' → StG g H' F' Gx σ' ρ' L' → C H' F') (st : StG g H F Gx σ ρ [])
    (r : Rs g W pn (forL h fb ds) σ F Gx ρ (EndR g Gx D)) :
    ∃ Wv : Nat → Nat → L2.St → Hp → Prop, (∃ m, Wv 0 m σ H) ∧ ∀ i m σ H, Wv i m σ H → (J.stop i H ∧ D.nx σ H) ∨ (J.go i H ∧ ∃ N : L2.St → Hp → Prop, (∀ σ' H', N σ' H' → ∃ m', m' < m ∧ Wv (i + 1) m' σ' H') ∧
      ∀ x H', J.yld i H x H' → Tg g W pn h x σ H' fun σ2 H2 => Ts g W pn fb { D with nx := N, ct := N, bk := D.nx } σ2 H2) := by
  refine ⟨fun i m σ1 H1 => m = ds.length - i ∧ i ≤ ds.length ∧ ∃ F1 ρ1, Le F F1 ∧ StG g H1 F1 Gx σ1 ρ1 [] ∧ Rs g W pn (forL h fb (ds.drop i)) σ1 F1 Gx ρ1 (EndR g Gx D), ⟨ds.length, by simp, Nat.zero_le _, F, ρ, Le.refl F, st, r⟩, ?_⟩
  rintro i m σ1 H1 ⟨rfl, hi, F1, ρ1, le1, st1, r1⟩
  have c1 := hC H1 F1 σ1 ρ1 [] le1 st1
  by_cases hlt : i < ds.length
  · refine .inr ⟨it.go i H1 F1 hlt c1, fun σ' H' => ∃ F' ρ', Le F F' ∧ StG g H' F' Gx σ' ρ' [] ∧ Rs g W pn (forL h fb (ds.drop (i + 1))) σ' F' Gx ρ' (EndR g Gx D), fun σ' H' ⟨F', ρ', a, b, c⟩ => ⟨ds.length - (i + 1), by omega, rfl, hlt, F', ρ', a, b, c⟩, fun x H' y => ?_⟩
    obtain ⟨F2, le2, st2, rx⟩ := it.yld i ds[i] H1 F1 Gx σ1 ρ1 [] x H' (by simp [hlt]) c1 st1 y
    have e : ds.drop i = ds[i] :: ds.drop (i + 1) := List.drop_eq_getElem_cons hlt
    rw [e] at r1
    have r2 : Rs g W pn ((h (.val ds[i])).bind fun _ => fb.bind fun out => match out with
      | .bk => M.pure .nx
      | .rt o => M.pure (.rt o)
      | _ => forL h fb (ds.drop (i + 1))) σ1 F1 Gx ρ1 (EndR g Gx D) := r1
    have r3 : Rs g W pn ((h (.val ds[i])).bind fun _ => fb.bind fun out => match out with
      | .bk => M.pure .nx
      | .rt o => M.pure (.rt o)
      | _ => forL h fb (ds.drop (i + 1))) σ1 F2 Gx ρ1 (EndR g Gx D) := by
      unfold Rs at r2 ⊢
      split <;> rename_i q <;> rw [q] at r2
      · exact r2
      · exact fun H' F' σ' l => r2 H' F' σ' (le2.trans l)
      · exact fun H' F' σ' d l => r2 H' F' σ' d (le2.trans l)
    refine ⟨F2, Gx, ρ1, .val ds[i], st2.ofVal rx, r3.bind.mono fun _ H3 F3 σ3 ρ3 le3 p3 r4 st3 => ⟨F3, Gx, ρ3, st3, r4.bind.mono fun out H4 F4 σ4 ρ4 le4 p4 r5 => ?_⟩⟩
    have leA : Le F F4 := (le1.trans le2).trans (le3.trans le4)
    cases out with
    | nx => exact fun st4 => ⟨F4, ρ4, leA, st4, r5⟩
    | ct => exact fun st4 => ⟨F4, ρ4, leA, st4, r5⟩
    | bk => exact fun st4 => r5.pure H4 F4 σ4 (Le.refl _) (Pin.refl _) st4
    | rt o => exact fun v st4 => r5.pure H4 F4 σ4 (Le.refl _) (Pin.refl _) v st4
  · have e : i = ds.length := by omega
    subst e
    rw [List.drop_length] at r1
    exact .inl ⟨it.stop H1 F1 c1, r1.pure H1 F1 σ1 (Le.refl _) (Pin.refl _) st1⟩
end
/-- what is walked, by its items: the source frozen -/
def Ti (g : Gv) (W : WX) (fi : M (List D)) : L2.TI := fun σ H R => ∃ F Gx ρ, StG g H F Gx σ ρ [] ∧ Rn g W fi σ H F Gx ρ fun ds H' F' ρ' => ∀ J F2, Le F' F2 → StG g H' F2 Gx σ ρ' [] → ItG g J (Fz F2) ds → R J H'
theorem PI.imp {X : Cx} {tg iter : Expr} {t t' : L2.TI} (h : PI X tg iter t) (i : ∀ σ H Q, t' σ H Q → t σ H Q) : PI X tg iter t' := ⟨fun pins s σ H Q I q => h.run pins s σ H Q I (i σ H Q q)⟩
section
variable {g : Gv} {W : WX} {pn : List Nat} {h : O → M Unit} {fb : M Out} {X : Cx} {ca : Ca} {tg iter : Expr} {body : List Stmt} {pos : Pos} {fi : M (List D)}
theorem s_for (hp : PassesOwn (model X.prog X.w) X.A X.env X.xe) (hc : X.calm = true) (hi : PI X tg iter (Ti g W fi)) (hg : PG X tg (Tg g W pn h)) (hb : PSs X body (Ts g W pn fb))
    (hs : ∀ x, foldedSetIterable iter X.env x = pure x := by intro _; rfl) : PS X (.For tg iter body [] pos) (Ts g W pn (fi.bind fun ds => forL h fb ds)) :=
  PS.imp (ps_for hp hc hi hg hb hs) fun D σ H ⟨F, Gx, ρ, st, r⟩ => ⟨F, Gx, ρ, st, r.expr.mono fun ds H' F' ρ' le r1 J F2 le2 st' it => by
    have r2 : Rs g W pn (forL h fb ds) σ F2 Gx ρ' (EndR g Gx D) := by
      unfold Rs at r1 ⊢
      split <;> rename_i q <;> rw [q] at r1
      · exact r1
      · exact fun H' F' σ' l => r1 H' F' σ' (le2.trans l)
      · exact fun H' F' σ' d l => r1 H' F' σ' d (le2.trans l)
    exact for_core it (fun H' F' σ' ρ' L' l s => ⟨l, s.le⟩) st' r2⟩
end

/-! ### sources -/
def O.its : O → Option (List D)
  | .val (.tup ds) => some ds
  | .val (.str x) => some (signsD x)
  | o => o.dsL
/-- a list, a tuple, a text, by what comes -/
def iSeq (K : PySem.W.Frag) (te : TE) : L2.TI := fun σ H R => te σ H fun v H1 => (∃ a, v = .ref a ∧ (∃ xs, SqL K H1 a xs) ∧ R (Itl K a) H1) ∨ (∃ a, v = .ref a ∧ (∃ xs, SqT K H1 a xs) ∧ R (Itt K a) H1) ∨ ∃ x, v = .str x ∧ R (Its x) H1
section
variable {W : WX} {X : Cx} {ca : Ca} {tg e : Expr} {te : TE}
theorem pi_seq (he : PE X e te) : PI X tg e (iSeq X.K te) := by
  refine ⟨fun pins s σ H R I h => ?_⟩
  refine thn (he.run pins s σ H _ I h) fun v s1 ⟨x, H1, I1, r1, q1⟩ => ?_
  rcases q1 with ⟨a, rfl, ⟨xs, hq⟩, q⟩ | ⟨a, rfl, ⟨xs, hq⟩, q⟩ | ⟨z, rfl, q⟩
  · cases r1
    obtain ⟨its, _, p, _⟩ := I1.list hq
    exact wpAny_pyIter_list p.isList (pi_one (tk := s1.toks) I1 _ (turn_list a _) ⟨_, Heap.get?_push_size _ rfl, rfl, rfl⟩ q)
  · cases r1
    obtain ⟨its, _, p, _⟩ := I1.tuple hq
    exact wpAny_pyIter_tuple p (pi_one (tk := s1.toks) I1 _ (turn_tuple a _) ⟨_, Heap.get?_push_size _ rfl, rfl, rfl⟩ q)
  · obtain ⟨t, rfl⟩ := r1
    by_cases ha : z.cps.all (· < 128) = true
    · exact wpAny_pyIter_ascii ha (pi_one (tk := s1.toks) I1 _ (turn_str _ z t _ (.inl rfl)) ⟨_, Heap.get?_push_size _ rfl, rfl, rfl⟩ q)
    · exact wpAny_pyIter_wide (by simpa using ha) (pi_one (tk := s1.toks) I1 _ (turn_str _ z t _ (.inr rfl)) ⟨_, Heap.get?_push_size _ rfl, rfl, rfl⟩ q)
/-- the items of what is handed on -/
theorem its_ok {g : Gv} {H F Gx : Hp} {σ : L2.St} {ρ : Sls} {o : O} {v : V} {ds : List D} (st : StG g H F Gx σ ρ [(v, o)]) (e : o.its = some ds) : ∃ F2, Le F F2 ∧ StG g H F2 Gx σ ρ [] ∧
    ((∃ a vs, v = .ref a ∧ F2 a = some (.lst vs) ∧ RepVs g F2 ds vs) ∨ (∃ a vs, v = .ref a ∧ SqT g.K F2 a vs ∧ RepVs g F2 ds vs) ∨ ∃ x, v = .str x ∧ ds = signsD x) := by
  cases o with
  | val d =>
    have rv := st.gd.val (B := slL σ ρ)
    have st2 := st.drop1
    cases d with
    | tup es =>
      rw [O.its] at e; cases e
      rw [RepV] at rv
      obtain ⟨a, vs, rfl, q, r⟩ := rv
      exact ⟨F, Le.refl F, st2, .inr (.inl ⟨a, vs, rfl, q, r⟩)⟩
    | str x =>
      rw [O.its] at e; cases e
      rw [RepV] at rv
      exact ⟨F, Le.refl F, st2, .inr (.inr ⟨x, rv, rfl⟩)⟩
    | lst es =>
      simp [O.its, O.dsL] at e; cases e
      rw [RepV] at rv
      obtain ⟨a, vs, rfl, q, r⟩ := rv
      exact ⟨F, Le.refl F, st2, .inl ⟨a, vs, rfl, q, r⟩⟩
    | _ => simp [O.its, O.dsL] at e
  | lst os =>
    obtain ⟨F2, le, st2⟩ := st.freeze
    have rv := st2.gd.val (B := slL σ ρ)
    have hd : fzs os = ds := by
      simp [O.its, O.dsL] at e
      clear st st2 rv
      induction os generalizing ds with
      | nil => rw [valsO] at e; cases e; rfl
      | cons o os ih =>
        cases o with
        | val d =>
          rw [valsO] at e
          obtain ⟨es, e1, rfl⟩ := Option.map_eq_some_iff.mp e
          rw [fzs, fz, ih e1]
        | _ => simp [valsO] at e
    rw [fz, RepV, hd] at rv
    obtain ⟨a, vs, rfl, q, r⟩ := rv
    exact ⟨F2, le, st2.drop1, .inl ⟨a, vs, rfl, q, r⟩⟩
  | _ => simp [O.its, O.dsL] at e
def seqI (f : M O) : M (List D) := f.bind fun o => M.of o.its
theorem i_seq {f : M O} (he : PE X e (T (gv X ca) W f)) : PI X tg e (Ti (gv X ca) W (seqI f)) :=
  PI.imp (pi_seq he) fun σ H R ⟨F, Gx, ρ, st, r⟩ => ⟨F, Gx, ρ, st, r.bind.mono fun o H1 F1 ρ1 le r1 v st1 => by
    obtain ⟨ds, e, q⟩ := r1.of
    obtain ⟨F2, le2, st2, h⟩ := its_ok st1 e
    rcases h with ⟨a, vs, rfl, hq, rv⟩ | ⟨a, vs, rfl, hq, rv⟩ | ⟨x, rfl, rfl⟩
    · exact .inl ⟨a, rfl, ⟨vs, SqL.of (st2.le _ _ hq)⟩, q H1 F1 (Le.refl _) _ F2 le2 st2 (itg_list.imp (at_fz hq rv))⟩
    · exact .inr (.inl ⟨a, rfl, ⟨vs, SqT.mono st2.le hq⟩, q H1 F1 (Le.refl _) _ F2 le2 st2 (itg_tup hq rv)⟩)
    · exact .inr (.inr ⟨x, rfl, q H1 F1 (Le.refl _) _ F2 le2 st2 (itg_str x)⟩)⟩
def rngI1 (fs : M (List O)) : M (List D) := fs.bind fun os => match os with
  | [.val (.int j)] => if -(2 ^ 62) ≤ j ∧ j < 2 ^ 62 then M.pure (rangeD 0 j.toNat) else M.stuck
  | _ => M.stuck
def rngI2 (fs : M (List O)) : M (List D) := fs.bind fun os => match os with
  | [.val (.int i), .val (.int j)] => if -(2 ^ 62) ≤ i ∧ i < 2 ^ 62 ∧ -(2 ^ 62) ≤ j ∧ j < 2 ^ 62 then M.pure (rangeD i (j - i).toNat) else M.stuck
  | _ => M.stuck
theorem i_rng1 {a : Expr} {fs : M (List O)} {p pos : Pos} (hg : Gl X "range") (hm : X.mg "range" = none) (ha : PA X [a] (TLR (gv X ca) W fs)) (hs : starEach [a] X.env = [(false, eval a X.env)] := by rfl) : PI X tg (.Call (.Name "range" p) [a] [] pos) (Ti (gv X ca) W (rngI1 fs)) :=
  PI.imp (pi_range1 hg hm ha hs) fun σ H R ⟨F, Gx, ρ, st, r⟩ => ⟨F, Gx, ρ, st, r.bind.mono fun os H1 F1 ρ1 le r1 vs st1 vw => by
    split at r1
    · rename_i j
      split at r1
      · rename_i hj
        obtain ⟨v, w, S, rfl, rv, rfl⟩ := vw
        cases rv.intV
        exact ⟨j, rfl, hj.1, hj.2, r1.pure H1 F1 (Le.refl _) _ F1 (Le.refl _) st1 (itg_range 0 j.toNat)⟩
      · obtain ⟨_, _, e⟩ := r1.run; cases e
    · obtain ⟨_, _, e⟩ := r1.run; cases e⟩
theorem i_rng2 {a b : Expr} {fs : M (List O)} {p pos : Pos} (hg : Gl X "range") (hm : X.mg "range" = none) (ha : PA X [a, b] (TLR (gv X ca) W fs)) (hs : starEach [a, b] X.env = [(false, eval a X.env), (false, eval b X.env)] := by rfl) (hs2 : starEach [b] X.env = [(false, eval b X.env)] := by rfl) : PI X tg (.Call (.Name "range" p) [a, b] [] pos) (Ti (gv X ca) W (rngI2 fs)) :=
  PI.imp (pi_range2 hg hm ha hs hs2) fun σ H R ⟨F, Gx, ρ, st, r⟩ => ⟨F, Gx, ρ, st, r.bind.mono fun os H1 F1 ρ1 le r1 vs st1 vw => by
    split at r1
    · rename_i i j
      split at r1
      · rename_i hj
        obtain ⟨v, w, S, rfl, rv, v2, w2, S2, rfl, rv2, rfl⟩ := vw
        cases rv.intV; cases rv2.intV
        exact ⟨i, j, rfl, hj, r1.pure H1 F1 (Le.refl _) _ F1 (Le.refl _) st1 (itg_range i (j - i).toNat)⟩
      · obtain ⟨_, _, e⟩ := r1.run; cases e
    · obtain ⟨_, _, e⟩ := r1.run; cases e⟩
end
end PF

set_option Elab.async false
set_option linter.all false
set_option maxRecDepth 100000
set_option maxHeartbeats 2000000
namespace PF
open PySem PySem.Spec PyProof.Rows L2

/-! ### runs that raise nothing -/
def noX {α : Type} (f : M α) : M α := fun ρ => match f ρ with
  | some (.ok a, ρ') => some (.ok a, ρ')
  | _ => none
def Okk {α : Type} (f : M α) (F : Hp) (ρ : Sls) (R : α → Hp → Hp → Sls → Prop) : Prop := match f ρ with
  | some (.ok a, ρ') => ∀ H' F', Le F F' → R a H' F' ρ'
  | _ => False
section
variable {g : Gv} {W : WX} {pn : List Nat} {α β : Type}
theorem Okk.bind {f : M α} {k : α → M β} {F : Hp} {ρ : Sls} {R : β → Hp → Hp → Sls → Prop} (h : Okk (f.bind k) F ρ R) : Okk f F ρ fun a H' F' ρ' => Okk (k a) F' ρ' R := by
  unfold Okk M.bind at *
  cases q : f ρ with
  | none => rw [q] at h; exact h
  | some p =>
    obtain ⟨r, ρ'⟩ := p
    rw [q] at h
    cases r with
    | ex e => exact h
    | ok a =>
      intro H' F' le
      show match k a ρ' with | some (.ok a, ρ') => _ | _ => False
      have h : match k a ρ' with | some (.ok a, ρ') => ∀ H' F', Le F F' → R a H' F' ρ' | _ => False := h
      split <;> rename_i q2
      · rw [q2] at h; exact fun H2 F2 le2 => h H2 F2 (le.trans le2)
      · split at h
        · rename_i a' ρ2 e; exact q2 a' ρ2 e
        · exact h
theorem Okk.mono {f : M α} {F : Hp} {ρ : Sls} {R R' : α → Hp → Hp → Sls → Prop} (h : Okk f F ρ R) (i : ∀ a H' F' ρ', Le F F' → R a H' F' ρ' → R' a H' F' ρ') : Okk f F ρ R' := by
  unfold Okk at *
  split <;> rename_i q
  · rw [q] at h; exact fun H' F' le => i _ _ _ _ le (h H' F' le)
  · split at h
    · rename_i a' ρ2 e; exact q a' ρ2 e
    · exact h
theorem Okk.run {f : M α} {F : Hp} {ρ : Sls} {R : α → Hp → Hp → Sls → Prop} (h : Okk f F ρ R) : ∃ a ρ', f ρ = some (.ok a, ρ') := by
  unfold Okk at h
  split at h
  · rename_i a ρ' q; exact ⟨a, ρ', q⟩
  · exact h.elim
theorem Okk.ok {f : M α} {F : Hp} {ρ ρ' : Sls} {R : α → Hp → Hp → Sls → Prop} {a : α} (h : Okk f F ρ R) (e : f ρ = some (.ok a, ρ')) : ∀ H' F', Le F F' → R a H' F' ρ' := by
  unfold Okk at h; rw [e] at h; exact h
theorem Okk.pure {F : Hp} {ρ : Sls} {R : α → Hp → Hp → Sls → Prop} {a : α} (h : Okk (M.pure a) F ρ R) : ∀ H' F', Le F F' → R a H' F' ρ := h
theorem Okk.le {f : M α} {F F1 : Hp} {ρ : Sls} {R : α → Hp → Hp → Sls → Prop} (h : Okk f F ρ R) (le : Le F F1) : Okk f F1 ρ R := by
  unfold Okk at *
  split <;> rename_i q
  · rw [q] at h; exact fun H' F' l => h H' F' (le.trans l)
  · split at h
    · rename_i a' ρ2 e; exact q a' ρ2 e
    · exact h
theorem Okk.rn {f : M α} {σ : L2.St} {H F Gx : Hp} {ρ : Sls} {R : α → Hp → Hp → Sls → Prop} (h : Okk f F ρ R) : Rn g W f σ H F Gx ρ R := by
  obtain ⟨a, ρ', e⟩ := h.run
  unfold Rn
  rw [e]
  exact h.ok e
theorem Okk.rs {f : M α} {σ : L2.St} {F Gx : Hp} {ρ : Sls} {R : α → Hp → Hp → Sls → Prop} (h : Okk f F ρ R) : Rs g W pn f σ F Gx ρ fun a H' F' σ' ρ' => R a H' F' ρ' := by
  obtain ⟨a, ρ', e⟩ := h.run
  unfold Rs
  rw [e]
  exact fun H' F' σ' le _ => h.ok e H' F' le
theorem Rn.okk {f : M α} {σ : L2.St} {H F Gx : Hp} {ρ : Sls} {R : α → Hp → Hp → Sls → Prop} (h : Rn g W (noX f) σ H F Gx ρ R) : Okk f F ρ R := by
  obtain ⟨r, ρ', e⟩ := h.run
  unfold noX at e
  split at e
  · rename_i a ρ2 q
    unfold Okk
    rw [q]
    exact h.ok (by unfold noX; rw [q])
  · cases e
end

/-! ### more on slots -/
section
variable {g : Gv} {H F Gx : Hp} {σ : L2.St} {ρ : Sls} {L : List (V × O)}
theorem StG.asideS (h : StG g H F Gx σ ρ L) : ∃ Gx', StG g H F Gx' σ ρ [] ∧ ∀ H' F' σ' ρ' L', Le F F' → StG g H' F' Gx' σ' ρ' L' → StG g H' F' Gx σ' ρ' (L ++ L') := by
  obtain ⟨Gx', q, back⟩ := Good.aside (A := slL σ ρ) (B := L) (h.gd.perm List.perm_append_comm)
  refine ⟨Gx', ⟨h.wf, h.len, q⟩, fun H' F' σ' ρ' L' le q' => ⟨q'.wf, q'.len, ?_⟩⟩
  have z := back H' F' _ le q'.gd
  refine z.perm ?_
  rw [List.append_assoc, List.append_assoc]
  exact (List.perm_append_comm.append_left L').trans (by rw [← List.append_assoc, ← List.append_assoc]; exact List.perm_append_comm.append_right _)
/-- what laid aside says of the heap -/
theorem StG.asideH (h : StG g H F Gx σ ρ L) : ∃ Gx', StG g H F Gx' σ ρ [] ∧ (∀ H' F' σ' ρ' L', Le F F' → StG g H' F' Gx' σ' ρ' L' → StG g H' F' Gx σ' ρ' (L ++ L')) := h.asideS
theorem StG.emptyS (h : StG g H F Gx σ ρ L) (i : Nat) : StG g H F Gx (σ.set i none) (ρ.set i none) L := by
  cases e : ρ[i]? with
  | none =>
    have hl : ρ.length ≤ i := List.getElem?_eq_none_iff.mp e
    have hl2 : σ.length ≤ i := by rw [h.len]; exact hl
    rw [List.set_eq_of_length_le hl, List.set_eq_of_length_le hl2]
    exact h
  | some r =>
    have wf : SlW (σ.set i none) (ρ.set i none) := fun j o q => by
      by_cases hj : i = j
      · subst hj
        have hl : i < ρ.length := (List.getElem?_eq_some_iff.mp e).1
        simp [hl] at q
      · rw [List.getElem?_set_ne hj] at q ⊢; exact h.wf j o q
    cases r with
    | none =>
      refine ⟨wf, by simpa using h.len, ?_⟩
      rw [slL_hole, set_self e]
      exact h.gd
    | some o =>
      obtain ⟨v, hv, st⟩ := h.take e
      refine ⟨wf, by simpa using h.len, ?_⟩
      rw [slL_hole]
      exact st.drop1.gd
end
def wipeR (ρ : Sls) : List Nat → Sls
  | [] => ρ
  | v :: vs => (wipeR ρ vs).set v none
theorem wipeR_length (ρ : Sls) : ∀ vs : List Nat, (wipeR ρ vs).length = ρ.length
  | [] => rfl
  | v :: vs => by unfold wipeR; rw [List.length_set, wipeR_length ρ vs]
section
variable {g : Gv} {H F Gx : Hp} {σ τ : L2.St} {ρ : Sls} {L : List (V × O)}
theorem StG.wipe (h : StG g H F Gx σ ρ L) : ∀ vs, StG g H F Gx (wipe σ vs) (wipeR ρ vs) L
  | [] => h
  | v :: vs => (StG.wipe h vs).emptyS v
theorem slL_agree : ∀ {σ τ : L2.St} {ρ : Sls}, σ.length = ρ.length → τ.length = ρ.length → (∀ (i : Nat) (o : O), ρ[i]? = some (some o) → σ[i]? = τ[i]?) → slL σ ρ = slL τ ρ
  | [], [], ρ, _, _, _ => rfl
  | s :: σ, t :: τ, r :: ρ, h1, h2, h3 => by
    have ih := slL_agree (σ := σ) (τ := τ) (ρ := ρ) (by simpa using h1) (by simpa using h2) fun i o e => by simpa using h3 (i + 1) o (by simpa using e)
    cases r with
    | none => rw [slL_none, slL_none, ih]
    | some o =>
      have e : s = t := by simpa using h3 0 o (by simp)
      subst e
      cases s with
      | none => rw [slL_drop, slL_drop, ih]
      | some v => show (v, o) :: slL σ ρ = (v, o) :: slL τ ρ; rw [ih]
  | [], _ :: _, ρ, h1, h2, _ => by simp at h1 h2; omega
  | _ :: _, [], ρ, h1, h2, _ => by simp at h1 h2; omega
  | _ :: _, _ :: _, [], h1, _, _ => by simp at h1
theorem StG.unwipe {vs : List Nat} (h : StG g H F Gx (L2.wipe σ vs) ρ L) : StG g H F Gx σ ρ L := by
  have ag : ∀ (i : Nat) (o : O), ρ[i]? = some (some o) → (L2.wipe σ vs)[i]? = σ[i]? := fun i o e => by
    obtain ⟨v, hv⟩ := h.wf i o e
    rw [hv, (wipe_some hv).1]
  have hl : σ.length = ρ.length := by rw [← h.len, wipe_length]
  refine ⟨fun i o e => ?_, hl, ?_⟩
  · obtain ⟨v, hv⟩ := h.wf i o e
    exact ⟨v, (wipe_some hv).1⟩
  · rw [← slL_agree h.len hl ag]
    exact h.gd
/-- an owned thing written, with more that it takes in -/
theorem Good.writeP {A L : List (V × O)} {o o' : O} {a : Addr} {u : HO} (h : Good g H F Gx ((.ref a, o) :: (A ++ L)))
    (r : ∀ S1 SA, RepO g H F o (.ref a) S1 → RepL g H F A SA → (∀ b, S1 b → SA b → False) → S1 a ∧ RepO g (upd H a u) F o' (.ref a) (fun b => S1 b ∨ SA b)) : Good g (upd H a u) F Gx ((.ref a, o') :: L) := by
  obtain ⟨S, hT, hF, hG, hFG, hS, S1, S2, sp, r1, r2⟩ := h.ex
  obtain ⟨SA, SL, sp2, rA, rL⟩ := RepL.split g A L S2 r2
  obtain ⟨ha, ro⟩ := r S1 SA r1 rA fun b h1 h2 => sp.d b h1 (sp2.l b h2)
  obtain ⟨nF, nG, _⟩ := hS a (sp.l a ha)
  refine ⟨S, hT.wr (sp.l a ha), fun b o e => ?_, fun b o e => ?_, hFG, fun b hb => ?_, fun b => S1 b ∨ SA b, SL, ⟨fun b hb => hb.elim (sp.l b) fun hb => sp.r b (sp2.l b hb), fun b hb => sp.r b (sp2.r b hb), fun b h1 h2 => h1.elim (fun h1 => sp.d b h1 (sp2.r b h2)) fun h1 => sp2.d b h1 h2⟩,
    ro, RepL.frame g (Le.refl F) L SL SL (fun _ h => h) (fun b hb => upd_ne (fun e => sp.d a ha (by rw [← e]; exact sp2.r b hb))) rL⟩
  · rw [upd_ne (fun q => by subst q; rw [nF] at e; cases e)]; exact hF b o e
  · rw [upd_ne (fun q => by subst q; rw [nG] at e; cases e)]; exact hG b o e
  · obtain ⟨x, y, z⟩ := hS b hb
    refine ⟨x, y, ?_⟩
    by_cases q : b = a
    · subst q; exact ⟨_, upd_same⟩
    · rw [upd_ne q]; exact z
theorem RepOs.snoc {H F : Hp} : ∀ {os : List O} {vs : List V} {S T : Addr → Prop} {o : O} {v : V}, RepOs g H F os vs S → RepO g H F o v T → (∀ b, S b → T b → False) → RepOs g H F (os ++ [o]) (vs ++ [v]) (fun b => S b ∨ T b)
  | [], vs, S, T, o, v, r, ro, _ => by
    rw [RepOs] at r
    subst r
    rw [List.nil_append, List.nil_append, RepOs]
    exact ⟨v, [], T, fun _ => False, rfl, ⟨fun _ h => .inr h, fun _ h => h.elim, fun _ _ h => h⟩, ro, by rw [RepOs]⟩
  | x :: os, vs, S, T, o, v, r, ro, d => by
    rw [RepOs] at r
    obtain ⟨w, ws, S1, S2, rfl, sp, r1, r2⟩ := r
    rw [List.cons_append, List.cons_append, RepOs]
    exact ⟨w, _, S1, fun b => S2 b ∨ T b, rfl, ⟨fun b h => .inl (sp.l b h), fun b h => h.elim (fun h => .inl (sp.r b h)) .inr, fun b h1 h2 => h2.elim (sp.d b h1) (d b (sp.l b h1))⟩, r1, RepOs.snoc r2 ro fun b h1 h2 => d b (sp.r b h1) h2⟩
theorem StG.push {Dd : Addr} {os : List O} {o : O} {y : V} (h : StG g H F Gx σ ρ ((.ref Dd, .lst os) :: (y, o) :: L)) : ∃ acc, H Dd = some (.lst acc) ∧ acc.length = os.length ∧ StG g (upd H Dd (.lst (acc ++ [y]))) F Gx σ ρ ((.ref Dd, .lst (os ++ [o])) :: L) := by
  obtain ⟨S, r⟩ := h.gd.view (B := (y, o) :: L ++ slL σ ρ)
  rw [RepO] at r
  obtain ⟨a, acc, e, sa, q, rs⟩ := r
  cases e
  refine ⟨acc, q, rs.length, h.wf, h.len, ?_⟩
  refine Good.writeP (A := [(y, o)]) (L := L ++ slL σ ρ) h.gd fun S1 SA r1 rA d => ?_
  rw [RepO] at r1
  obtain ⟨a, acc', e, sa', q', rs'⟩ := r1
  cases e
  rw [q] at q'; cases q'
  obtain ⟨T, T2, sp, ro, _⟩ := rA
  have ro' : RepO g H F o y SA := RepO.sup g (fun b hb => sp.l b hb) ro
  refine ⟨sa', ?_⟩
  rw [RepO]
  refine ⟨Dd, acc ++ [y], rfl, .inl sa', upd_same, ?_⟩
  have r3 := RepOs.snoc rs' ro' fun b h1 h2 => d b h1.1 h2
  refine RepOs.frame g (Le.refl F) _ _ _ _ (fun b hb => ?_) (fun b hb => upd_ne ?_) r3
  · rcases hb with hb | hb
    · exact ⟨.inl hb.1, hb.2⟩
    · exact ⟨.inr hb, fun e => d Dd sa' (by rw [← e]; exact hb)⟩
  · rcases hb with hb | hb
    · exact hb.2
    · exact fun e => d Dd sa' (by rw [← e]; exact hb)
end

/-! ### [.. for .. in .. if ..] -/
def wpM (own : List Nat) : M Unit := fun ρ => some (.ok (), wipeR ρ own)
def lcL (own : List Nat) (h : O → M Unit) (ft : M Bool) (fe : M O) : List D → M (List O)
  | [] => M.pure []
  | d :: ds => (h (.val d)).bind fun _ => ft.bind fun b => if b = true then fe.bind fun o => (wpM own).bind fun _ => (lcL own h ft fe ds).bind fun os => M.pure (o :: os) else (wpM own).bind fun _ => lcL own h ft fe ds
def lcF (own : List Nat) (fi : M (List D)) (h : O → M Unit) (ft : M Bool) (fe : M O) : M O := fi.bind fun ds => if ds.length ≤ lim then noX ((wpM own).bind fun _ => (lcL own h ft fe ds).bind fun os => M.pure (.lst os)) else M.stuck
/-- every slot but the block's own -/
def others (n : Nat) (own : List Nat) : List Nat := (List.range n).filter fun i => !own.contains i
abbrev W0 : WX := fun _ _ _ _ => False
theorem wipe_get (σ : L2.St) (i : Nat) : ∀ vs : List Nat, (L2.wipe σ vs)[i]? = if i ∈ vs then (if i < σ.length then some none else none) else σ[i]?
  | [] => by simp [L2.wipe]
  | v :: vs => by
    have ih := wipe_get σ i vs
    unfold L2.wipe
    by_cases hv : v = i
    · subst hv
      by_cases hl : v < σ.length
      · rw [List.getElem?_set_self (by rw [wipe_length]; exact hl)]; simp [hl]
      · rw [List.getElem?_eq_none (by rw [List.length_set, wipe_length]; omega)]; simp [hl]
    · rw [List.getElem?_set_ne hv, ih]
      have : (i ∈ v :: vs) = (i ∈ vs) := by simp [Ne.symm hv]
      simp only [this]
theorem wipe_pin {σ σ2 : L2.St} {own : List Nat} (p : Pin (others σ.length own) σ σ2) : L2.wipe σ2 own = L2.wipe σ own := by
  refine List.ext_getElem? fun i => ?_
  rw [wipe_get, wipe_get, p.1]
  by_cases h : i ∈ own
  · simp [h]
  · simp only [h, if_false]
    by_cases hl : i < σ.length
    · exact p.2 i (by unfold others; simp [hl, h])
    · have e1 := p.1
      rw [List.getElem?_eq_none (show σ2.length ≤ i by omega), List.getElem?_eq_none (show σ.length ≤ i by omega)]
section
variable {g : Gv} {h : O → M Unit} {ft : M Bool} {fe : M O} {own : List Nat}
theorem lc_run {J : It} {ds : List D} {C : Hp → Hp → Prop} {F Gx H : Hp} {σ : L2.St} {ρ : Sls} {Q : VK} {Dd : Addr} {n : Nat} (hn : n = σ.length) (it : ItG g J C ds) (hC : ∀ H' F' σ' ρ' L', Le F F' → StG g H' F' Gx σ' ρ' L' → C H' F') (st : StG g H F Gx (L2.wipe σ own) ρ []) (hz : ds.length ≤ lim) (hD : H Dd = none)
    (r : Okk ((lcL own h ft fe ds).bind fun os => M.pure (.lst os)) F ρ fun o H' F' ρ' => ∀ v, StG g H' F' Gx (L2.wipe σ own) ρ' [(v, o)] → Q v H') :
    ∃ Wv : Nat → Nat → Hp → Prop, (∃ m, Wv 0 m (upd H Dd (.lst []))) ∧ ∀ i m H, Wv i m H → (J.stop i H ∧ Q (.ref Dd) H) ∨ (J.go i H ∧ ∃ Nx : Hp → Prop, (∀ H', Nx H' → ∃ m', m' < m ∧ Wv (i + 1) m' H') ∧
      ∀ x H', J.yld i H x H' → Tg g W0 (others n own) h x (L2.wipe σ own) H' fun σ2 H2 => L2.wipe σ2 own = L2.wipe σ own ∧ Tt g W0 ft σ2 H2 fun b H3 =>
        if b = true then T g W0 fe σ2 H3 fun y H4 => ∃ acc, H4 Dd = some (.lst acc) ∧ acc.length < sizeLine ∧ Nx (upd H4 Dd (.lst (acc ++ [y]))) else Nx H3) := by
  subst hn
  have wl : (L2.wipe σ own).length = σ.length := wipe_length σ own
  have ww : L2.wipe (L2.wipe σ own) own = L2.wipe σ own := by
    refine List.ext_getElem? fun i => ?_
    rw [wipe_get, wipe_get, wl]
    by_cases q : i ∈ own <;> simp [q]
  have st0 : StG g (upd H Dd (.lst [])) F Gx (L2.wipe σ own) ρ [(.ref Dd, .lst [])] := ⟨st.wf, st.len, Good.newO (L := slL (L2.wipe σ own) ρ) st.gd hD fun S hS => by
    rw [RepO]; exact ⟨Dd, [], rfl, hS, upd_same, by rw [RepOs]⟩⟩
  refine ⟨fun i m H1 => m = ds.length - i ∧ i ≤ ds.length ∧ ∃ F1 ρ1 os, Le F F1 ∧ os.length ≤ i ∧ StG g H1 F1 Gx (L2.wipe σ own) ρ1 [(.ref Dd, .lst os)] ∧
    Okk ((lcL own h ft fe (ds.drop i)).bind fun rest => M.pure (.lst (os ++ rest))) F1 ρ1 fun o H' F' ρ' => ∀ v, StG g H' F' Gx (L2.wipe σ own) ρ' [(v, o)] → Q v H',
    ⟨ds.length, by simp, Nat.zero_le _, F, ρ, [], Le.refl F, Nat.le_refl _, st0, by simpa using r⟩, ?_⟩
  rintro i m H1 ⟨rfl, hi, F1, ρ1, os, le1, hos, st1, r1⟩
  have c1 := hC H1 F1 _ ρ1 _ le1 st1
  by_cases hlt : i < ds.length
  · refine .inr ⟨it.go i H1 F1 hlt c1, fun H' => ∃ F' ρ' os', Le F F' ∧ os'.length ≤ i + 1 ∧ StG g H' F' Gx (L2.wipe σ own) ρ' [(.ref Dd, .lst os')] ∧
      Okk ((lcL own h ft fe (ds.drop (i + 1))).bind fun rest => M.pure (.lst (os' ++ rest))) F' ρ' (fun o H' F' ρ' => ∀ v, StG g H' F' Gx (L2.wipe σ own) ρ' [(v, o)] → Q v H'),
      fun H' ⟨F', ρ', os', a, b, c, d⟩ => ⟨ds.length - (i + 1), by omega, rfl, hlt, F', ρ', os', a, b, c, d⟩, fun x H' y => ?_⟩
    obtain ⟨F2, le2, st2, rx⟩ := it.yld i ds[i] H1 F1 Gx _ ρ1 _ x H' (by simp [hlt]) c1 st1 y
    have e : ds.drop i = ds[i] :: ds.drop (i + 1) := List.drop_eq_getElem_cons hlt
    rw [e] at r1
    have r2 : Okk (((h (.val ds[i])).bind fun _ => ft.bind fun b => if b = true then fe.bind fun o => (wpM own).bind fun _ => (lcL own h ft fe (ds.drop (i + 1))).bind fun os => M.pure (o :: os) else (wpM own).bind fun _ => lcL own h ft fe (ds.drop (i + 1))).bind fun rest => M.pure (.lst (os ++ rest))) F2 ρ1 (fun o H' F' ρ' => ∀ v, StG g H' F' Gx (L2.wipe σ own) ρ' [(v, o)] → Q v H') := r1.le le2
    obtain ⟨Gx1, st3, back⟩ := st2.asideS
    refine ⟨F2, Gx1, ρ1, .val ds[i], st3.ofVal rx, ?_⟩
    rw [M.bind_assoc] at r2
    refine (Okk.rs r2.bind).mono fun _ H3 F3 σ3 ρ3 le3 p3 r5 st4 => ?_
    have p3' : Pin (others (L2.wipe σ own).length own) (L2.wipe σ own) σ3 := by rw [wl]; exact p3
    have w3 : L2.wipe σ3 own = L2.wipe σ own := (wipe_pin p3').trans ww
    rw [M.bind_assoc] at r5
    refine ⟨w3, F3, Gx1, ρ3, st4, Okk.rn (Okk.mono r5.bind fun b H4 F4 ρ4 le4 r6 st5 => ?_)⟩
    cases b with
    | true =>
      simp only [if_true, M.bind_assoc, M.pure_bind] at r6
      refine ⟨F4, Gx1, ρ4, st5, Okk.rn (Okk.mono r6.bind fun o H5 F5 ρ5 le5 r7 v st6 => ?_)⟩
      have st7 := back H5 F5 _ ρ5 _ ((le3.trans le4).trans le5) st6
      obtain ⟨acc, ha, hl, st8⟩ := StG.push (L := []) st7
      refine ⟨acc, ha, by rw [hl, sizeLine_eq]; unfold lim at hz; omega, F5, wipeR ρ5 own, os ++ [o], ((le1.trans le2).trans (le3.trans le4)).trans le5, by simp; omega, ?_, ?_⟩
      · have st9 := st8.wipe own
        rw [w3] at st9
        exact st9
      · have r8 := r7.bind.ok (a := ()) (ρ' := wipeR ρ5 own) rfl H5 F5 (Le.refl _)
        simpa using r8
    | false =>
      simp only [Bool.false_eq_true, if_false, M.bind_assoc, M.pure_bind] at r6
      have st7 := back H4 F4 _ ρ4 _ (le3.trans le4) st5
      have st9 := st7.wipe own
      rw [w3] at st9
      have r8 := r6.bind.ok (a := ()) (ρ' := wipeR ρ4 own) rfl H4 F4 (Le.refl _)
      exact ⟨F4, wipeR ρ4 own, os, (le1.trans le2).trans (le3.trans le4), by omega, st9, r8⟩
  · have e : i = ds.length := by omega
    subst e
    rw [List.drop_length] at r1
    refine .inl ⟨it.stop H1 F1 c1, ?_⟩
    have r2 : Okk (M.pure (O.lst (os ++ []))) F1 ρ1 fun o H' F' ρ' => ∀ v, StG g H' F' Gx (L2.wipe σ own) ρ' [(v, o)] → Q v H' := r1
    rw [List.append_nil] at r2
    exact r2.pure H1 F1 (Le.refl _) _ st1
end
/-- a slot's thing put back -/
def bk (i : Nat) (o : O) : M Unit := fun ρ => match ρ[i]? with
  | some none => some (.ok (), ρ.set i (some o))
  | _ => none
def lcB (own : List Nat) (i : Nat) (h : O → M Unit) (ft : M Bool) (fe : M O) : M O := (mv i).bind fun o => (M.of o.dsL).bind fun ds => if ds.length ≤ lim then noX ((wpM own).bind fun _ => (lcL own h ft fe ds).bind fun os => (bk i o).bind fun _ => M.pure (.lst os)) else M.stuck
def setB (i : Nat) (f : M O) : M Out := setS i f
section
variable {W : WX} {X : Cx} {ca : Ca} {pn : List Nat} {elt tg iter e : Expr} {ifs : List Expr} {scope : Scope} {own : List (Str × Nat)} {pos : Pos} {h : O → M Unit} {ft : M Bool} {fe : M O} {fi : M (List D)}
theorem ts_nil {g : Gv} : PTs X [] (Tt g W (M.pure true)) := ⟨fun pins s σ H Q I h => pts_nil.run pins s σ H Q I (Tt_pure h)⟩
theorem ts_one {g : Gv} {c : Expr} {f : M Bool} (h : PT X c (Tt g W f)) : PTs X [c] (Tt g W f) := pts_one h
theorem wipe_id (σ : L2.St) (own : List Nat) : L2.wipe (L2.wipe σ own) own = L2.wipe σ own := by
  refine List.ext_getElem? fun i => ?_
  rw [wipe_get, wipe_get, wipe_length]
  by_cases q : i ∈ own <;> simp [q]
/-- the comprehension's question, from a run -/
theorem lc_ask {g : Gv} {vs : List Nat} {n : Nat} {σ : L2.St} {H : Hp} {Q : VK} (hn : n = σ.length) (r : T g W (lcF vs fi h ft fe) σ H Q) : tLc (Ti g W fi) (Tg g W0 (others n vs) h) (Tt g W0 ft) (T g W0 fe) vs σ H Q := by
  obtain ⟨F, Gx, ρ, st, r⟩ := r
  refine ⟨F, Gx, ρ, st, r.bind.mono fun ds H1 F1 ρ1 le r1 J F2 le2 st2 it Dd hD => ?_⟩
  split at r1
  · rename_i hz
    have r2 : Okk _ F2 ρ1 _ := (Okk.mono r1.okk fun o H' F' ρ' le q => q).le le2
    have r3 := r2.bind.ok (a := ()) (ρ' := wipeR ρ1 vs) rfl H1 F2 (Le.refl _)
    refine lc_run (F := F2) hn it (fun H' F' σ' ρ' L' l s => ⟨l, s.le⟩) (st2.wipe vs) hz hD (Okk.mono r3 fun o H' F' ρ' le q v st' => q v st'.unwipe)
  · obtain ⟨_, _, e⟩ := r1.run; cases e
theorem e_lc (hc : X.calm = true) (hN : X.N.Nodup) (hi : PI X tg iter (Ti (gv X ca) W fi)) (ok : BlkOk X.N X.env.scope scope own)
    (hg : ∀ (s : Shared) (H : Hp) (C : Addr) (cl : List (Str × Addr)) (fp : List Addr), PG (X.blk s H scope (compEnvC scope cl C X.env) fp) tg (Tg (gv X ca) W0 (others X.N.length (own.map (·.2))) h))
    (ht : ∀ (s : Shared) (H : Hp) (C : Addr) (cl : List (Str × Addr)) (fp : List Addr), PTs (X.blk s H scope (compEnvC scope cl C X.env) fp) ifs (Tt (gv X ca) W0 ft))
    (he : ∀ (s : Shared) (H : Hp) (C : Addr) (cl : List (Str × Addr)) (fp : List Addr), PE (X.blk s H scope (compEnvC scope cl C X.env) fp) elt (T (gv X ca) W0 fe)) (hs : ∀ x, foldedSetIterable iter X.env x = pure x := by intro _; rfl) :
    PE X (.ListComp elt [⟨tg, iter, ifs, 0⟩] scope pos) (T (gv X ca) W (lcF (own.map (·.2)) fi h ft fe)) :=
  ⟨fun pins s σ H Q I q => (pe_lc hc hN hi ok hg ht he hs).run pins s σ H Q I (lc_ask I.len.symm q)⟩
theorem s_setLc {i : Nat} {y : Str} {py spos : Pos} (hc : X.calm = true) (hN : X.N.Nodup) (hy : X.N[i]? = some y) (hyl : X.env.scope.names.lookup y = some .local) (hp : i ∉ pn)
    (hsw : swapsWith (.ListComp elt [⟨tg, iter, ifs, 0⟩] scope pos) (some (.Name y py)) spos.line X.env = pure true) (hi : PI X tg iter (Ti (gv X ca) W fi)) (ok : BlkOk X.N X.env.scope scope own)
    (hg : ∀ (s : Shared) (H : Hp) (C : Addr) (cl : List (Str × Addr)) (fp : List Addr), PG (X.blk s H scope (compEnvC scope cl C X.env) fp) tg (Tg (gv X ca) W0 (others X.N.length (own.map (·.2))) h))
    (ht : ∀ (s : Shared) (H : Hp) (C : Addr) (cl : List (Str × Addr)) (fp : List Addr), PTs (X.blk s H scope (compEnvC scope cl C X.env) fp) ifs (Tt (gv X ca) W0 ft))
    (he : ∀ (s : Shared) (H : Hp) (C : Addr) (cl : List (Str × Addr)) (fp : List Addr), PE (X.blk s H scope (compEnvC scope cl C X.env) fp) elt (T (gv X ca) W0 fe)) (hs : ∀ x, foldedSetIterable iter X.env x = pure x := by intro _; rfl) :
    PS X (.Assign [.Name y py] (.ListComp elt [⟨tg, iter, ifs, 0⟩] scope pos) spos) (Ts (gv X ca) W pn (setS i (lcF (own.map (·.2)) fi h ft fe))) :=
  ⟨fun pins s σ H D I ⟨F, Gx, ρ, st, r⟩ => (ps_setLc hc hN hy hyl hsw hi ok hg ht he hs).run pins s σ H D I (lc_ask (W := W) I.len.symm ⟨F, Gx, ρ, st, r.expr.mono fun o H' F' ρ' le r1 v st' => Ts_nx (Ts_put hp st' r1)⟩)⟩
/-- .. over a list that a slot owns -/
theorem lcB_ask {g : Gv} {vs : List Nat} {n i : Nat} {σ : L2.St} {H : Hp} {Q : VK} (hn : n = σ.length) (hi : i ∉ vs) (r : T g W (lcB vs i h ft fe) σ H Q) : tLc (iSeq g.K (tVar i)) (Tg g W0 (others n vs) h) (Tt g W0 ft) (T g W0 fe) vs σ H Q := by
  obtain ⟨F, Gx, ρ, st, r⟩ := r
  obtain ⟨_, _, e0⟩ := r.run
  cases q0 : ρ[i]? with
  | none => unfold lcB M.bind mv at e0; rw [q0] at e0; cases e0
  | some s =>
    cases s with
    | none => unfold lcB M.bind mv at e0; rw [q0] at e0; cases e0
    | some o =>
      obtain ⟨v, hv, st1⟩ := st.take q0
      have e1 : mv i ρ = some (.ok o, ρ.set i none) := by unfold mv; rw [q0]
      have r1 := r.bind.ok e1 H F (Le.refl _)
      obtain ⟨ds, hd, r2⟩ := r1.bind.of
      have r3 := r2 H F (Le.refl _)
      obtain ⟨S, rv⟩ := Good.view (B := [] ++ slL σ (ρ.set i none)) st1.gd
      obtain ⟨a, us, rfl, ha, rus⟩ := dsL_ok st1.le rv hd
      split at r3
      · rename_i hz
        obtain ⟨Gx', st2, back⟩ := st1.asideS
        refine ⟨.ref a, hv, .inl ⟨a, rfl, ⟨us, SqL.of ha⟩, fun Dd hD => ?_⟩⟩
        have r4 : Okk _ F (ρ.set i none) _ := r3.okk
        have r5 := r4.bind.ok (a := ()) (ρ' := wipeR (ρ.set i none) vs) rfl H F (Le.refl _)
        refine lc_run hn itg_list (fun H' F' σ' ρ' L' l s => ?_) (st2.wipe vs) hz hD ?_
        · have s2 := back H' F' σ' ρ' L' l s
          obtain ⟨S', rv'⟩ := Good.view (B := L' ++ slL σ' ρ') s2.gd
          obtain ⟨a', us', e, ha', rus'⟩ := dsL_ok s2.le rv' hd
          cases e
          exact ⟨us', ha', rus'⟩
        · -- the end: the slot has it again
          have key : ∀ (ρ' : Sls) os H' F', Le F F' → (Okk ((bk i o).bind fun _ => M.pure (.lst os)) F' ρ' fun o H' F' ρ' => ∀ v, StG g H' F' Gx σ ρ' [(v, o)] → Q v H') → ∀ w, StG g H' F' Gx' (L2.wipe σ vs) ρ' [(w, .lst os)] → Q w H' := fun ρ' os H' F' l q w s => by
            have s2 := back H' F' _ ρ' _ l s
            have s3 := s2.unwipe
            obtain ⟨_, _, e2⟩ := q.run
            cases q2 : ρ'[i]? with
            | none => unfold M.bind bk at e2; rw [q2] at e2; cases e2
            | some z =>
              cases z with
              | some _ => unfold M.bind bk at e2; rw [q2] at e2; cases e2
              | none =>
                have s4 := s3.putback hv q2
                have e3 : bk i o ρ' = some (.ok (), ρ'.set i (some o)) := by unfold bk; rw [q2]
                exact (q.bind.ok e3 H' F' (Le.refl _)).pure H' F' (Le.refl _) w s4
          obtain ⟨a5, ρ5, e5⟩ := r5.run
          have r6 := r5.bind
          unfold Okk at r6 ⊢
          cases q6 : lcL vs h ft fe ds (wipeR (ρ.set i none) vs) with
          | none => rw [q6] at r6; exact r6.elim
          | some p6 =>
            obtain ⟨rz, ρ6⟩ := p6
            rw [q6] at r6
            cases rz with
            | ex x => exact r6.elim
            | ok os =>
              have e7 : ((lcL vs h ft fe ds).bind fun os => M.pure (O.lst os)) (wipeR (ρ.set i none) vs) = some (.ok (O.lst os), ρ6) := by unfold M.bind; rw [q6]; rfl
              rw [e7]
              intro H' F' l w s
              exact key ρ6 os H' F' l (r6 H' F' l) w s
      · obtain ⟨_, _, e⟩ := r3.run; cases e
theorem e_lcB (i : Nat) (hc : X.calm = true) (hN : X.N.Nodup) (hv : PE X iter (tVar i)) (hio : i ∉ own.map (·.2)) (ok : BlkOk X.N X.env.scope scope own)
    (hg : ∀ (s : Shared) (H : Hp) (C : Addr) (cl : List (Str × Addr)) (fp : List Addr), PG (X.blk s H scope (compEnvC scope cl C X.env) fp) tg (Tg (gv X ca) W0 (others X.N.length (own.map (·.2))) h))
    (ht : ∀ (s : Shared) (H : Hp) (C : Addr) (cl : List (Str × Addr)) (fp : List Addr), PTs (X.blk s H scope (compEnvC scope cl C X.env) fp) ifs (Tt (gv X ca) W0 ft))
    (he : ∀ (s : Shared) (H : Hp) (C : Addr) (cl : List (Str × Addr)) (fp : List Addr), PE (X.blk s H scope (compEnvC scope cl C X.env) fp) elt (T (gv X ca) W0 fe)) (hs : ∀ x, foldedSetIterable iter X.env x = pure x := by intro _; rfl) :
    PE X (.ListComp elt [⟨tg, iter, ifs, 0⟩] scope pos) (T (gv X ca) W (lcB (own.map (·.2)) i h ft fe)) :=
  ⟨fun pins s σ H Q I q => (pe_lc hc hN (pi_seq hv) ok hg ht he hs).run pins s σ H Q I (lcB_ask I.len.symm hio q)⟩
end
end PF

set_option Elab.async false
set_option linter.all false
set_option maxRecDepth 100000
set_option maxHeartbeats 2000000
namespace PF
open PySem PySem.Spec PyProof.Rows L2

/-! ### keys -/
theorem toNk_tup {ds : List D} {k : NestedKey} (h : toNk (.tup ds) = some k) : ∃ ks, toNks ds = some ks ∧ k = .tup ks := by
  rw [toNk] at h
  obtain ⟨ks, h1, h2⟩ := Option.map_eq_some_iff.mp h
  exact ⟨ks, h1, h2.symm⟩
theorem toNks_cons {d : D} {ds : List D} {ks : List NestedKey} (h : toNks (d :: ds) = some ks) : ∃ k r, toNk d = some k ∧ toNks ds = some r ∧ ks = k :: r := by
  rw [toNks] at h
  split at h
  · rename_i k r h1 h2; cases h; exact ⟨k, r, h1, h2, rfl⟩
  · cases h
mutual
theorem eqv_nk : ∀ (a b : D) (k l : NestedKey), toNk a = some k → toNk b = some l → a.eqv b = decide (k = l)
  | .non, b, k, l, h, h' => by
    rw [toNk] at h; cases h
    cases b <;> first
      | (simp [toNk] at h'; done)
      | (rw [toNk] at h'; cases h'; simp [D.eqv])
      | (obtain ⟨ks, _, rfl⟩ := toNk_tup h'; simp [D.eqv])
  | .int i, b, k, l, h, h' => by
    rw [toNk] at h; cases h
    cases b <;> first
      | (simp [toNk] at h'; done)
      | (rw [toNk] at h'; cases h'; simp [D.eqv]; done)
      | (rw [toNk] at h'; cases h'; rw [D.eqv, Bool.beq_eq_decide_eq]; simp)
      | (obtain ⟨ks, _, rfl⟩ := toNk_tup h'; simp [D.eqv])
  | .str x, b, k, l, h, h' => by
    rw [toNk] at h; cases h
    cases b <;> first
      | (simp [toNk] at h'; done)
      | (rw [toNk] at h'; cases h'; simp [D.eqv]; done)
      | (rw [toNk] at h'; cases h'; rw [D.eqv, Bool.beq_eq_decide_eq]; simp)
      | (obtain ⟨ks, _, rfl⟩ := toNk_tup h'; simp [D.eqv])
  | .tup xs, b, k, l, h, h' => by
    obtain ⟨ks, h1, rfl⟩ := toNk_tup h
    cases b with
    | tup ys =>
      obtain ⟨ls, h2, rfl⟩ := toNk_tup h'
      rw [D.eqv, eqvs_nk xs ys ks ls h1 h2]
      simp
    | _ => first
      | (simp [toNk] at h'; done)
      | (rw [toNk] at h'; cases h'; simp [D.eqv])
  | .bl _, b, k, l, h, h' => by simp [toNk] at h
  | .lst _, b, k, l, h, h' => by simp [toNk] at h
  | .dct _ _ _, b, k, l, h, h' => by simp [toNk] at h
  | .ins _ _ _, b, k, l, h, h' => by simp [toNk] at h
  | .scr _, b, k, l, h, h' => by simp [toNk] at h
  | .ty _, b, k, l, h, h' => by simp [toNk] at h
  | .exn _ _ _, b, k, l, h, h' => by simp [toNk] at h
theorem eqvs_nk : ∀ (a b : List D) (k l : List NestedKey), toNks a = some k → toNks b = some l → D.eqvs a b = decide (k = l)
  | [], [], k, l, h, h' => by rw [toNks] at h h'; cases h; cases h'; simp [D.eqvs]
  | [], _ :: _, k, l, h, h' => by
    rw [toNks] at h; cases h
    obtain ⟨a, r, _, _, rfl⟩ := toNks_cons h'
    simp [D.eqvs]
  | _ :: _, [], k, l, h, h' => by
    rw [toNks] at h'; cases h'
    obtain ⟨a, r, _, _, rfl⟩ := toNks_cons h
    simp [D.eqvs]
  | x :: xs, y :: ys, k, l, h, h' => by
    obtain ⟨a, r, h1, h2, rfl⟩ := toNks_cons h
    obtain ⟨b, t, h3, h4, rfl⟩ := toNks_cons h'
    rw [D.eqvs, eqv_nk x y a b h1 h3, eqvs_nk xs ys r t h2 h4]
    by_cases e1 : a = b <;> by_cases e2 : r = t <;> simp [e1, e2]
end
def dget {α : Type} : List D → List α → D → Option α
  | k :: ks, v :: vs, x => if k.eqv x = true then some v else dget ks vs x
  | _, _, _ => none
/-- stored: at the old place, or behind -/
def dputK : List D → D → List D
  | [], x => [x]
  | k :: ks, x => if k.eqv x = true then k :: ks else k :: dputK ks x
def dputV {α : Type} : List D → List α → D → α → List α
  | k :: ks, v :: vs, x, y => if k.eqv x = true then y :: vs else v :: dputV ks vs x y
  | _, vs, _, y => vs ++ [y]

section
variable {X : Cx} {ca : Ca} {pins : List (Addr × Obj)} {σ : L2.St} {H F : Hp} {s : Shared}
mutual
theorem nk_is (I : Inv X pins σ H s) (le : Le F H) : ∀ (d : D) (k : NestedKey) (v : V) (u : Value), toNk d = some k → RepV (gv X ca) F d v → RelV v u → NestedIs s.heap k u
  | .non, k, v, u, h, r, q => by
    rw [toNk] at h; cases h
    rw [RepV] at r; subst r; cases q; exact .none
  | .int i, k, v, u, h, r, q => by
    rw [toNk] at h; cases h
    rw [RepV] at r; subst r; obtain ⟨t, rfl⟩ := q; exact .int i t
  | .str i, k, v, u, h, r, q => by
    rw [toNk] at h; cases h
    rw [RepV] at r; subst r; obtain ⟨t, rfl⟩ := q; exact .text i t
  | .tup ds, k, v, u, h, r, q => by
    obtain ⟨ks, h1, rfl⟩ := toNk_tup h
    rw [RepV] at r
    obtain ⟨a, vs, rfl, hq, rs⟩ := r
    cases q
    obtain ⟨its, rv, ⟨o, ho, hc, n, hd⟩, _⟩ := I.tuple (SqT.mono le hq)
    exact .tup ho hc hd (by simpa using nks_are I le ds ks vs its h1 rs rv)
  | .bl _, k, v, u, h, r, q => by simp [toNk] at h
  | .lst _, k, v, u, h, r, q => by simp [toNk] at h
  | .dct _ _ _, k, v, u, h, r, q => by simp [toNk] at h
  | .ins _ _ _, k, v, u, h, r, q => by simp [toNk] at h
  | .scr _, k, v, u, h, r, q => by simp [toNk] at h
  | .ty _, k, v, u, h, r, q => by simp [toNk] at h
  | .exn _ _ _, k, v, u, h, r, q => by simp [toNk] at h
theorem nks_are (I : Inv X pins σ H s) (le : Le F H) : ∀ (ds : List D) (ks : List NestedKey) (vs : List V) (us : List Value), toNks ds = some ks → RepVs (gv X ca) F ds vs → Vals vs us → NestedAll s.heap ks us
  | [], ks, vs, us, h, r, q => by
    rw [toNks] at h; cases h
    rw [RepVs] at r; subst r; cases q; exact .nil
  | d :: ds, ks, vs, us, h, r, q => by
    obtain ⟨k, l, h1, h2, rfl⟩ := toNks_cons h
    rw [RepVs] at r
    obtain ⟨v, w, rfl, r1, r2⟩ := r
    cases q with
    | cons q1 q2 => exact .cons (nk_is I le d k v _ h1 r1 q1) (nks_are I le ds l w _ h2 r2 q2)
end
/-- how the keys of such a dict stand -/
structure NKs (g : Gv) (F : Hp) (ks : List D) (xs : List (NestedKey × Addr × V)) : Prop where
  rep : RepVs g F ks (xs.map fun x => .ref x.2.1)
  nk : ks.map toNk = xs.map fun x => some x.1
  dep : ∀ x ∈ xs, x.1.depth ≤ 8
abbrev NRel (x : NestedKey × Addr × V) (y : NestedKey × Addr × Value) : Prop := x.1 = y.1 ∧ x.2.1 = y.2.1 ∧ RelV x.2.2 y.2.2
theorem NKs.is (I : Inv X pins σ H s) (le : Le F H) : ∀ {ks : List D} {xs : List (NestedKey × Addr × V)} {ys : List (NestedKey × Addr × Value)}, NKs (gv X ca) F ks xs → Paired NRel xs ys → ∀ y ∈ ys, (nestedKind X.prog X.w).is s.heap y.1 y.2.1
  | [], [], _, _, .nil => fun y hy => by cases hy
  | _ :: _, [], _, n, .nil => fun y hy => by cases hy
  | [], x :: xs, _, n, .cons _ _ => by have := n.nk; simp at this
  | k :: ks, x :: xs, y :: ys, n, .cons r t => fun z hz => by
    have e := n.nk
    simp only [List.map_cons, List.cons.injEq] at e
    have rp := n.rep
    rw [List.map_cons, RepVs] at rp
    obtain ⟨v, w, ev, r1, r2⟩ := rp
    cases ev
    rcases List.mem_cons.mp hz with rfl | hz
    · obtain ⟨e1, e2, _⟩ := r
      rw [← e1, ← e2]
      exact ⟨nk_is I le k x.1 _ _ e.1 r1 rfl, n.dep x (by simp)⟩
    · exact NKs.is I le ⟨r2, e.2, fun x hx => n.dep x (by simp [hx])⟩ t z hz
theorem dN_of {a : Addr} {ks : List D} {xs : List (NestedKey × Addr × V)} (I : Inv X pins σ H s) (le : Le F H) (n : NKs (gv X ca) F ks xs) (h : H a = some (dTN (gv X ca) a xs)) :
    xs.length ≤ sizeLine ∧ (a == sysModules) = false ∧ ∃ ys, Paired NRel xs ys ∧ s.heap.DictOfH (nestedKind X.prog X.w) a ys := by
  have ok := I.hok a _ h
  unfold dTN at ok
  obtain ⟨⟨z, lo, ys, pr, o, es, ep, h1, h2, h3, h4, h5⟩, _, _⟩ := ok
  exact ⟨z, lo, ys, pr, o, es, ep, h1, h2, h3, h4, n.is I le pr, h5⟩
theorem dN_new {H' : Hp} {h' : Heap} {P : Program} {w : World} {K : PySem.W.Frag} {a : Addr} {xs : List (NestedKey × Addr × V)} {ys : List (NestedKey × Addr × Value)} (z : xs.length ≤ sizeLine) (lo : (a == sysModules) = false) (pr : Paired NRel xs ys) (d : h'.DictOfH (nestedKind P w) a ys) :
    ObjOk P w H' h' a (dTN ⟨P, w, K, ca⟩ a xs) := by
  obtain ⟨o, es, ep, h1, h2, h3, h4, _, h5⟩ := d
  refine ⟨⟨z, lo, ys, pr, o, es, ep, h1, h2, h3, h4, h5⟩, ⟨o, h1⟩, fun g1 g2 q k => ?_⟩
  obtain ⟨z, lo, ys, pr, o, es, ep, h1, h2, h3, h4, h5⟩ := q
  exact ⟨z, lo, ys, pr, o, es, ep, k _ h1, h2, h3, h4, h5⟩
/-- found alike -/
theorem dget_at {x : D} {kx : NestedKey} (hx : toNk x = some kx) : ∀ {ks : List D} {xs : List (NestedKey × Addr × V)} {ys : List (NestedKey × Addr × Value)}, ks.map toNk = xs.map (fun x => some x.1) → Paired NRel xs ys → RelO (dget ks (xs.map fun x => x.2.2) x) ((atKey ys kx).map (·.2))
  | [], [], _, _, .nil => by simp [dget, atKey, RelO]
  | _ :: _, [], _, n, .nil => by simp at n
  | [], x :: xs, _, n, .cons _ _ => by simp at n
  | k :: ks, z :: xs, y :: ys, n, .cons r t => by
    simp only [List.map_cons, List.cons.injEq] at n
    have ih := dget_at hx n.2 t
    obtain ⟨e1, e2, e3⟩ := r
    have e := eqv_nk k x z.1 kx n.1 hx
    rw [List.map_cons, dget, e]
    by_cases q : z.1 = kx
    · have q2 : y.1 = kx := by rw [← e1]; exact q
      simp [q, q2, atKey, RelO]
      exact e3
    · have q2 : ¬ y.1 = kx := by rw [← e1]; exact q
      simpa [q, q2, atKey, List.find?_cons] using ih
theorem dany {x : D} : ∀ {α : Type} {ks : List D} {vs : List α}, vs.length = ks.length → (ks.any fun k => k.eqv x) = (dget ks vs x).isSome
  | _, [], [], _ => rfl
  | _, k :: ks, v :: vs, h => by
    rw [List.any_cons, dget, dany (ks := ks) (vs := vs) (by simpa using h)]
    cases k.eqv x <;> simp
  | _, [], _ :: _, h => by simp at h
  | _, _ :: _, [], h => by simp at h
/-- a key that may stand in such a dict -/
def nkOk (d : D) : Bool := match d with
  | .tup _ => (match toNk d with
    | some k => decide (k.depth ≤ 8)
    | none => false)
  | _ => false
theorem nkOk_is {d : D} (h : nkOk d = true) : ∃ ds k, d = .tup ds ∧ toNk d = some k ∧ k.depth ≤ 8 := by
  unfold nkOk at h
  split at h
  · rename_i ds
    split at h
    · rename_i k hk; exact ⟨ds, k, rfl, hk, of_decide_eq_true h⟩
    · cases h
  · cases h
end

/-! ### views of dicts -/
/-- (nested?, keys, values) -/
def O.asD : O → Option (Bool × List D × List O)
  | .val (.dct t ks vs) => some (t, ks, vs.map .val)
  | .dct t ks os => some (t, ks, os)
  | _ => none
section
variable {g : Gv} {H F : Hp}
theorem asD_true {o : O} {v : V} {S : Addr → Prop} {ks : List D} {os : List O} (le : Le F H) (r : RepO g H F o v S) (e : o.asD = some (true, ks, os)) : ∃ a, ∃ xs : List (NestedKey × Addr × V), v = .ref a ∧ NKs g F ks xs ∧ H a = some (dTN g a xs) ∧ ∃ S', RepOs g H F os (xs.map fun x => x.2.2) S' := by
  cases o with
  | val d =>
    cases d with
    | dct t ks vs =>
      rw [O.asD] at e; cases e
      rw [RepO, RepV] at r
      obtain ⟨a, xs, rfl, e2, e3, e4, e5, rs⟩ := r
      exact ⟨a, xs, rfl, ⟨e2, e3, e4⟩, le _ _ e5, fun _ => False, RepVs.os rs _⟩
    | _ => simp [O.asD] at e
  | dct t ks os =>
    rw [O.asD] at e; cases e
    rw [RepO] at r
    obtain ⟨a, xs, rfl, sa, e2, e3, e4, e5, rs⟩ := r
    exact ⟨a, xs, rfl, ⟨e2, e3, e4⟩, e5, _, rs⟩
  | _ => simp [O.asD] at e
theorem asD_false {o : O} {v : V} {S : Addr → Prop} {ks : List D} {os : List O} (le : Le F H) (r : RepO g H F o v S) (e : o.asD = some (false, ks, os)) : ∃ a us, v = .ref a ∧
    ((∃ kk : List Key, ks = kk.map keyD ∧ kk.Nodup ∧ kk.length = us.length ∧ H a = some (.dK (kk.zip us))) ∨ KDc g a ks us) ∧ ∃ S', RepOs g H F os us S' := by
  cases o with
  | val d =>
    cases d with
    | dct t ks vs =>
      rw [O.asD] at e; cases e
      rw [RepO, RepV] at r
      obtain ⟨a, us, rfl, q, rs⟩ := r
      refine ⟨a, us, rfl, ?_, fun _ => False, RepVs.os rs _⟩
      rcases q with ⟨kk, e1, e2, e3, e4⟩ | q
      · exact .inl ⟨kk, e1, e2, e3, le _ _ e4⟩
      · exact .inr q
    | _ => simp [O.asD] at e
  | dct t ks os =>
    rw [O.asD] at e; cases e
    rw [RepO] at r
    obtain ⟨a, us, rfl, sa, q, rs⟩ := r
    exact ⟨a, us, rfl, .inl q, _, rs⟩
  | _ => simp [O.asD] at e
theorem dget_os : ∀ {ks : List D} {os : List O} {us : List V} {S : Addr → Prop} {x : D}, RepOs g H F os us S → (∃ o v S', dget ks os x = some o ∧ dget ks us x = some v ∧ RepO g H F o v S') ∨ (dget ks os x = none ∧ dget ks us x = none)
  | [], os, us, S, x, _ => .inr ⟨by simp [dget], by simp [dget]⟩
  | k :: ks, [], us, S, x, r => by
    rw [RepOs] at r
    subst r
    exact .inr ⟨by simp [dget], by simp [dget]⟩
  | k :: ks, o :: os, us, S, x, r => by
    rw [RepOs] at r
    obtain ⟨v, w, S1, S2, rfl, sp, r1, r2⟩ := r
    rw [dget, dget]
    by_cases q : k.eqv x = true
    · simp only [q, if_true]
      exact .inl ⟨o, v, S1, rfl, rfl, r1⟩
    · simp only [q, if_false]
      exact dget_os r2
end
/-- a key of an int or text dict -/
def D.key : D → Option Key
  | .str x => some (.inr x)
  | _ => none
theorem key_eqv (k l : Key) : (keyD k).eqv (keyD l) = decide (k = l) := by
  cases k <;> cases l <;> simp [keyD, D.eqv, Bool.beq_eq_decide_eq]
theorem key_str {d : D} {k : Key} (h : d.key = some k) : ∃ x, k = .inr x := by
  cases d <;> simp [D.key] at h <;> exact ⟨_, h.symm⟩
theorem key_of {d : D} {k : Key} (h : d.key = some k) : d = keyD k := by
  cases d <;> simp [D.key] at h <;> subst h <;> rfl
theorem dget_key {k : Key} : ∀ {kk : List Key} {us : List V}, kk.length = us.length → dget (kk.map keyD) us (keyD k) = valV (kk.zip us) k
  | [], [], _ => rfl
  | l :: kk, u :: us, h => by
    rw [List.map_cons, dget, key_eqv, List.zip_cons_cons]
    by_cases q : l = k
    · rw [valV_pos (by exact q)]; simp [q]
    · rw [valV_neg (by exact q)]; simp only [decide_eq_true_eq, q, if_false]; exact dget_key (by simpa using h)
  | [], _ :: _, h => by simp at h
  | _ :: _, [], h => by simp at h
theorem keyV {g : Gv} {F : Hp} {k : Key} {v : V} (r : RepV g F (keyD k) v) : v = kV k := by
  cases k <;> (rw [keyD, RepV] at r; exact r)
theorem dget_zs {x : Str} : ∀ (zs : List (Str × V)), dget (zs.map fun z => D.str z.1) (zs.map fun z => z.2) (.str x) = zs.lookup x
  | [] => rfl
  | z :: zs => by
    rw [List.map_cons, List.map_cons, dget, D.eqv, List.lookup_cons]
    by_cases q : z.1 = x
    · subst q; simp
    · have q1 : (z.1 == x) = false := beq_eq_false_iff_ne.mpr q
      have q2 : (x == z.1) = false := beq_eq_false_iff_ne.mpr (Ne.symm q)
      rw [q1, q2]
      simpa using dget_zs zs

/-- in, everywhere -/
def inE (a b : O) : Option Bool := match b.asD with
  | some (true, ks, os) => if nkOk (fz a) = true then some (ks.any fun k => k.eqv (fz a)) else none
  | some (false, ks, os) => if (fz a).key.isSome = true then some (ks.any fun k => k.eqv (fz a)) else none
  | none => inC a b
def ninE (a b : O) : Option Bool := (inE a b).map (!·)
def idxE (a b : O) : Option O := match a.asD with
  | some (true, ks, os) => if nkOk (fz b) = true then itV (dget ks os (fz b)) else none
  | some (false, ks, os) => if (fz b).key.isSome = true then itV (dget ks os (fz b)) else none
  | none => idxG a b
section
variable {X : Cx} {ca : Ca}
theorem val_of_fz {g : Gv} {H F : Hp} {o : O} {v : V} {S : Addr → Prop} {ds : List D} (h : fz o = .tup ds) (r : RepO g H F o v S) : RepV g F (.tup ds) v := by
  cases o with
  | val d => rw [fz] at h; subst h; rw [RepO] at r; exact r
  | lst _ => rw [fz] at h; cases h
  | dct _ _ _ => rw [fz] at h; cases h
  | ins _ _ _ => rw [fz] at h; cases h
theorem key_of_fz {g : Gv} {H F : Hp} {o : O} {v : V} {S : Addr → Prop} {k : Key} (h : (fz o).key = some k) (r : RepO g H F o v S) : fz o = keyD k ∧ v = kV k := by
  have e := key_of h
  refine ⟨e, ?_⟩
  cases o with
  | val d => rw [fz] at e; rw [RepO, e] at r; exact keyV r
  | lst _ => rw [fz] at e; cases k <;> cases e
  | dct _ _ _ => rw [fz] at e; cases k <;> cases e
  | ins _ _ _ => rw [fz] at e; cases k <;> cases e
theorem RelO.isSome {o : Option V} {u : Option Value} (r : RelO o u) : o.isSome = u.isSome := r.isSome_eq
theorem op_inE (hu : X.A.units + 65 < cLine) : OpR X (compareOp .In) (rC (gv X ca) inE) := by
  intro pins s σ H x y v u Q I rx ry ⟨F, oa, ob, S1, S2, b, le, ra, rb, e, q⟩
  unfold inE at e
  split at e
  · rename_i ks os hd
    split at e
    · rename_i hk
      cases e
      obtain ⟨ds, k, h1, h2, h3⟩ := nkOk_is hk
      obtain ⟨d, xs, rfl, nk, hH, S', ro⟩ := asD_true le rb hd
      have rv := val_of_fz h1 ra
      have ks2 := nk_is I le _ k x v (h1 ▸ h2) rv rx
      rw [RepV] at rv
      obtain ⟨a, vs, rfl, _⟩ := rv
      cases rx; cases ry
      obtain ⟨z, lo, ys, pr, dd⟩ := dN_of I le nk hH
      refine wpAny_in_heap (knd := nestedKind X.prog X.w) (by show X.A.units + 1 + 8 < cLine; omega) ⟨ks2, h3⟩ lo dd ?_
      have rel := dget_at h2 nk.nk pr
      have e2 := RelO.isSome rel
      rw [Option.isSome_map, ← dany (vs := xs.map fun x => x.2.2) (by have := nk.rep.length; simpa using this)] at e2
      rw [e2] at q
      exact ⟨.bl _, H, I.tok _, rfl, q⟩
    · cases e
  · rename_i ks os hd
    split at e
    · rename_i hk
      cases e
      obtain ⟨k, hk⟩ := Option.isSome_iff_exists.mp hk
      obtain ⟨e1, rfl⟩ := key_of_fz hk ra
      obtain ⟨d, us, rfl, hH, S', ro⟩ := asD_false le rb hd
      rw [e1] at q
      rcases hH with ⟨kk, rfl, nd, hl, hH⟩ | ⟨es, n, zs, kd, rfl, rfl, hz⟩
      · rw [dany (vs := us) (by simp [hl]), dget_key hl] at q
        cases ry
        exact d_in (by omega) I (DGet.k hH) rx fun s' I' => ⟨.bl _, H, I', rfl, q⟩
      · cases k with
        | inl i => obtain ⟨x, hx⟩ := key_str hk; cases hx
        | inr z =>
          obtain ⟨r, hr, rel⟩ := hz z
          rw [keyD, dany (vs := zs.map fun z => z.2) (by simp), dget_zs, RelO.isSome rel] at q
          exact op_in_kd kd pins s σ H _ _ v u Q I rx ry ⟨z, r, rfl, rfl, hr, q⟩
    · cases e
  · exact op_inC hu pins s σ H x y v u Q I rx ry ⟨F, oa, ob, S1, S2, b, le, ra, rb, e, q⟩
end
end PF

set_option Elab.async false
set_option linter.all false
set_option maxRecDepth 100000
set_option maxHeartbeats 2000000
namespace PF
open PySem PySem.Spec PyProof.Rows L2

/-! ### o[k] = v -/
def putN : List (NestedKey × Addr × V) → NestedKey → Addr → V → List (NestedKey × Addr × V)
  | [], k, b, v => [(k, b, v)]
  | x :: xs, k, b, v => if x.1 = k then (x.1, x.2.1, v) :: xs else x :: putN xs k b v
theorem putAt_id {k : NestedKey} {u : Value} : ∀ {ys : List (NestedKey × Addr × Value)}, (∀ y ∈ ys, y.1 ≠ k) → ys.map (putAt k u) = ys
  | [], _ => rfl
  | y :: ys, h => by
    rw [List.map_cons, putAt_id fun z hz => h z (by simp [hz])]
    unfold putAt
    rw [if_neg (h y (by simp))]
theorem storedH_cons {k : NestedKey} {b : Addr} {u : Value} {y : NestedKey × Addr × Value} {ys : List (NestedKey × Addr × Value)} (n : ((y :: ys).map (·.1)).Nodup) : storedH (y :: ys) k b u = if y.1 = k then (y.1, y.2.1, u) :: ys else y :: storedH ys k b u := by
  rw [List.map_cons, List.nodup_cons] at n
  unfold storedH
  by_cases q : y.1 = k
  · have e : atKey (y :: ys) k = some y.2 := by simp [atKey, List.find?_cons, q]
    rw [e, if_pos q, Option.isSome_some, if_pos rfl, List.map_cons, putAt_id fun z hz e2 => n.1 (by rw [q, ← e2]; exact List.mem_map_of_mem hz)]
    unfold putAt
    rw [if_pos q]
  · have e : atKey (y :: ys) k = atKey ys k := by simp [atKey, List.find?_cons, q]
    rw [e, if_neg q]
    have e2 : putAt k u y = y := by unfold putAt; rw [if_neg q]
    cases h : (atKey ys k).isSome <;> simp [e2]
theorem putN_rel {k : NestedKey} {b : Addr} {v : V} {u : Value} (rv : RelV v u) : ∀ {xs : List (NestedKey × Addr × V)} {ys : List (NestedKey × Addr × Value)}, Paired NRel xs ys → (ys.map (·.1)).Nodup → Paired NRel (putN xs k b v) (storedH ys k b u)
  | [], [], .nil, _ => .cons ⟨rfl, rfl, rv⟩ .nil
  | x :: xs, y :: ys, .cons r t, n => by
    have ih := putN_rel rv (k := k) (b := b) t (List.nodup_cons.mp (by simpa using n)).2
    rw [storedH_cons n, putN]
    obtain ⟨e1, e2, e3⟩ := r
    by_cases q : x.1 = k
    · rw [if_pos q, if_pos (by rw [← e1]; exact q)]
      exact .cons ⟨e1, e2, rv⟩ t
    · rw [if_neg q, if_neg (by rw [← e1]; exact q)]
      exact .cons ⟨e1, e2, e3⟩ ih
theorem putN_len (k : NestedKey) (b : Addr) (v : V) : ∀ xs : List (NestedKey × Addr × V), (putN xs k b v).length ≤ xs.length + 1
  | [] => by simp [putN]
  | x :: xs => by
    have := putN_len k b v xs
    rw [putN]
    split <;> simp <;> omega
theorem NKs.put {g : Gv} {F : Hp} {x : D} {k : NestedKey} {b : Addr} {v : V} (hx : toNk x = some k) (dk : k.depth ≤ 8) (rx : RepV g F x (.ref b)) : ∀ {ks : List D} {xs : List (NestedKey × Addr × V)}, NKs g F ks xs → NKs g F (dputK ks x) (putN xs k b v)
  | [], [], _ => ⟨by rw [dputK, putN, List.map_cons, List.map_nil, RepVs]; exact ⟨_, _, rfl, rx, by rw [RepVs]⟩, by simp [dputK, putN, hx], by simp [putN, dk]⟩
  | _ :: _, [], n => by have := n.nk; simp at this
  | [], _ :: _, n => by have := n.nk; simp at this
  | l :: ks, z :: xs, n => by
    have e := n.nk
    simp only [List.map_cons, List.cons.injEq] at e
    have rp := n.rep
    rw [List.map_cons, RepVs] at rp
    obtain ⟨w, ws, ev, r1, r2⟩ := rp
    cases ev
    have ih := NKs.put (v := v) hx dk rx (ks := ks) (xs := xs) ⟨r2, e.2, fun y hy => n.dep y (by simp [hy])⟩
    have q := eqv_nk l x z.1 k e.1 hx
    rw [dputK, putN, q]
    by_cases c : z.1 = k
    · rw [if_pos c, if_pos (by simp [c])]
      refine ⟨n.rep, n.nk, fun y hy => ?_⟩
      rcases List.mem_cons.mp hy with rfl | hy
      · exact n.dep z (by simp)
      · exact n.dep y (by simp [hy])
    · rw [if_neg c, if_neg (by simp [c])]
      refine ⟨?_, ?_, fun y hy => ?_⟩
      · rw [List.map_cons, RepVs]; exact ⟨_, _, rfl, r1, ih.rep⟩
      · rw [List.map_cons, List.map_cons, ih.nk, e.1]
      · rcases List.mem_cons.mp hy with rfl | hy
        · exact n.dep y (by simp)
        · exact ih.dep y hy
theorem putN_vals {x : D} {k : NestedKey} {b : Addr} {v : V} (hx : toNk x = some k) : ∀ {ks : List D} {xs : List (NestedKey × Addr × V)}, ks.map toNk = xs.map (fun x => some x.1) → (putN xs k b v).map (fun x => x.2.2) = dputV ks (xs.map fun x => x.2.2) x v
  | [], [], _ => by simp [putN, dputV]
  | _ :: _, [], n => by simp at n
  | [], _ :: _, n => by simp at n
  | l :: ks, z :: xs, n => by
    simp only [List.map_cons, List.cons.injEq] at n
    rw [putN, List.map_cons, dputV, eqv_nk l x z.1 k n.1 hx]
    by_cases c : z.1 = k
    · rw [if_pos c, if_pos (by simp [c])]; rfl
    · rw [if_neg c, if_neg (by simp [c]), List.map_cons, putN_vals hx n.2]
section
variable {g : Gv} {H F : Hp}
theorem RepOs.dput {x : D} {o : O} {v : V} : ∀ {ks : List D} {os : List O} {vs : List V} {S T : Addr → Prop}, os.length = ks.length → RepOs g H F os vs S → RepO g H F o v T → (∀ b, S b → T b → False) → RepOs g H F (dputV ks os x o) (dputV ks vs x v) (fun b => S b ∨ T b)
  | [], [], vs, S, T, hl, r, ro, d => by
    rw [RepOs] at r; subst r
    exact RepOs.snoc (os := []) (vs := []) (by rw [RepOs]) ro d
  | [], _ :: _, vs, S, T, hl, r, ro, d => by simp at hl
  | _ :: _, [], vs, S, T, hl, r, ro, d => by simp at hl
  | k :: ks, y :: os, vs, S, T, hl, r, ro, d => by
    rw [RepOs] at r
    obtain ⟨w, ws, S1, S2, rfl, sp, r1, r2⟩ := r
    rw [dputV, dputV]
    by_cases q : k.eqv x = true
    · rw [if_pos q, if_pos q, RepOs]
      exact ⟨v, ws, T, S2, rfl, ⟨fun b h => .inr h, fun b h => .inl (sp.r b h), fun b h1 h2 => d b (sp.r b h2) h1⟩, ro, r2⟩
    · rw [if_neg q, if_neg q, RepOs]
      have ih := RepOs.dput (x := x) (o := o) (v := v) (by simpa using hl) r2 ro fun b h1 h2 => d b (sp.r b h1) h2
      exact ⟨w, _, S1, fun b => S2 b ∨ T b, rfl, ⟨fun b h => .inl (sp.l b h), fun b h => h.elim (fun h => .inl (sp.r b h)) .inr, fun b h1 h2 => h2.elim (sp.d b h1) (d b (sp.l b h1))⟩, r1, ih⟩
theorem RepOs.set {o : O} {v : V} : ∀ {os : List O} {vs : List V} {S T : Addr → Prop} (i : Nat), RepOs g H F os vs S → RepO g H F o v T → (∀ b, S b → T b → False) → RepOs g H F (os.set i o) (vs.set i v) (fun b => S b ∨ T b)
  | [], vs, S, T, i, r, ro, d => by
    rw [RepOs] at r; subst r
    rw [List.set_nil, List.set_nil, RepOs]
  | y :: os, vs, S, T, 0, r, ro, d => by
    rw [RepOs] at r
    obtain ⟨w, ws, S1, S2, rfl, sp, r1, r2⟩ := r
    rw [List.set_cons_zero, List.set_cons_zero, RepOs]
    exact ⟨v, ws, T, S2, rfl, ⟨fun b h => .inr h, fun b h => .inl (sp.r b h), fun b h1 h2 => d b (sp.r b h2) h1⟩, ro, r2⟩
  | y :: os, vs, S, T, i + 1, r, ro, d => by
    rw [RepOs] at r
    obtain ⟨w, ws, S1, S2, rfl, sp, r1, r2⟩ := r
    rw [List.set_cons_succ, List.set_cons_succ, RepOs]
    have ih := RepOs.set (o := o) (v := v) i r2 ro fun b h1 h2 => d b (sp.r b h1) h2
    exact ⟨w, _, S1, fun b => S2 b ∨ T b, rfl, ⟨fun b h => .inl (sp.l b h), fun b h => h.elim (fun h => .inl (sp.r b h)) .inr, fun b h1 h2 => h2.elim (sp.d b h1) (d b (sp.l b h1))⟩, r1, ih⟩
end
def rSetN (g : Gv) : V → V → V → Hp → (Hp → Prop) → Prop := fun o i v H Q => ∃ F a xs ks d k b, Le F H ∧ o = .ref a ∧ i = .ref b ∧ H a = some (dTN g a xs) ∧ xs.length < sizeLine ∧ NKs g F ks xs ∧ RepV g F d (.ref b) ∧ toNk d = some k ∧ k.depth ≤ 8 ∧ Q (upd H a (dTN g a (putN xs k b v)))
section
variable {X : Cx} {ca : Ca}
theorem set_N (hu : X.A.units + 65 < cLine) : PSet X (rSetN (gv X ca)) := by
  intro pins s σ H o i v ov iv u Q I ro ri rv ⟨F, a, xs, ks, d, k, b, le, e1, e2, hH, hz, nk, rd, hk, dk, q⟩
  subst e1 e2
  cases ro; cases ri
  obtain ⟨z, lo, ys, pr, dd⟩ := dN_of I le nk hH
  have hz2 : ys.length ≤ sizeLine := by rw [← Paired.length pr]; exact z
  obtain ⟨_, _, _, _, _, _, _, _, hn⟩ := id dd
  refine wpAny_setItem_heap (knd := nestedKind X.prog X.w) (hsz := hz2) (by show X.A.units + 1 + 8 < cLine; omega) ⟨nk_is I le d k _ _ hk rd rfl, dk⟩ dd fun h' dd' hs => ?_
  obtain ⟨q1, es, ep, hq, h2, h3, h4, h5, h6⟩ := id dd'
  refine ⟨_, d_write I (by rw [hH]; exact True.intro) hs ⟨q1, hq⟩ (dN_new ?_ lo (putN_rel rv pr hn) dd'), q⟩
  have := putN_len k b v xs
  omega
theorem set_L : PSet X rSetL := set_list
end
/-- what a store makes of a thing -/
def stoG : O → O → O → Option O
  | .lst os, .val (.int n), v => (ixN os.length n).map fun j => .lst (os.set j v)
  | .dct true ks os, .val k, v => if nkOk k = true ∧ ks.length ≤ lim ∧ os.length = ks.length then some (.dct true (dputK ks k) (dputV ks os k v)) else none
  | _, _, _ => none
/-- a slot's thing changed in place -/
def upM (i : Nat) (f : O → Option O) : M Unit := fun ρ => match ρ[i]? with
  | some (some o) => (match f o with
    | some o' => some (.ok (), ρ.set i (some o'))
    | none => none)
  | _ => none
def subT (i : Nat) (fk : M O) : O → M Unit := fun v => (pk i).bind fun _ => fk.bind fun k => upM i fun o => stoG o k v
section
variable {g : Gv} {W : WX} {pn : List Nat} {α β : Type}
theorem upM_run {i : Nat} {f : O → Option O} {ρ ρ' : Sls} {r : Rz Unit} (h : upM i f ρ = some (r, ρ')) : ∃ o o', ρ[i]? = some (some o) ∧ f o = some o' ∧ r = .ok () ∧ ρ' = ρ.set i (some o') := by
  unfold upM at h
  split at h
  · rename_i o q
    split at h
    · rename_i o' q2; cases h; exact ⟨o, o', q, q2, rfl, rfl⟩
    · cases h
  · cases h
theorem Rn.up {i : Nat} {f : O → Option O} {k : Unit → M β} {σ : L2.St} {H F Gx : Hp} {ρ : Sls} {R : β → Hp → Hp → Sls → Prop} (h : Rn g W ((upM i f).bind k) σ H F Gx ρ R) : ∃ o o', ρ[i]? = some (some o) ∧ f o = some o' ∧ ∀ H', Rn g W (k ()) σ H' F Gx (ρ.set i (some o')) R := by
  obtain ⟨r, ρ', e⟩ := h.run
  cases q : upM i f ρ with
  | none => unfold M.bind at e; rw [q] at e; cases e
  | some p =>
    obtain ⟨o, o', h1, h2, h3, h4⟩ := upM_run (r := p.1) (ρ' := p.2) q
    exact ⟨o, o', h1, h2, fun H' => h.bind.ok (a := ()) (ρ' := ρ.set i (some o')) (by rw [q, ← h3, ← h4]) H' F (Le.refl F)⟩
theorem Rs.up {i : Nat} {f : O → Option O} {σ : L2.St} {F Gx : Hp} {ρ : Sls} {R : Unit → Hp → Hp → L2.St → Sls → Prop} (h : Rs g W pn (upM i f) σ F Gx ρ R) : ∃ o o', ρ[i]? = some (some o) ∧ f o = some o' ∧ ∀ H' F' σ', Le F F' → Pin pn σ σ' → R () H' F' σ' (ρ.set i (some o')) := by
  obtain ⟨r, ρ', e⟩ := h.run
  obtain ⟨o, o', h1, h2, h3, h4⟩ := upM_run e
  exact ⟨o, o', h1, h2, h.ok (by rw [e, h3, h4])⟩
theorem Rs.pk {i : Nat} {k : O → M β} {σ : L2.St} {F Gx : Hp} {ρ : Sls} {R : β → Hp → Hp → L2.St → Sls → Prop} (h : Rs g W pn ((PF.pk i).bind k) σ F Gx ρ R) : ∃ o, ρ[i]? = some (some o) ∧ Rs g W pn (k o) σ F Gx ρ R := by
  obtain ⟨r, ρ', e⟩ := h.run
  cases q : PF.pk i ρ with
  | none => unfold M.bind at e; rw [q] at e; cases e
  | some p =>
    obtain ⟨o, h1, h2, h3⟩ := pk_some (r := p.1) (ρ' := p.2) q
    exact ⟨o, h1, h.bind.ok (a := o) (ρ' := ρ) (by rw [q, ← h2, ← h3]) (fun _ => none) F σ (Le.refl F) (Pin.refl σ)⟩
end
section
variable {g : Gv} {H F Gx : Hp} {σ : L2.St} {ρ : Sls} {L A : List (V × O)}
/-- how a slot's own thing may be written -/
theorem StG.wr {i : Nat} {o : O} {a : Addr} (st : StG g H F Gx σ ρ (A ++ L)) (hi : ρ[i]? = some (some o)) (hv : σ[i]? = some (some (.ref a))) :
    ∃ S1 SA, RepO g H F o (.ref a) S1 ∧ RepL g H F A SA ∧ (∀ b, S1 b → SA b → False) ∧ ∀ (o' : O) (u : HO), S1 a → RepO g (upd H a u) F o' (.ref a) (fun b => S1 b ∨ SA b) → StG g (upd H a u) F Gx σ (ρ.set i (some o')) L := by
  obtain ⟨v, hv', st2⟩ := st.take hi
  rw [hv] at hv'; cases hv'
  have gd : Good g H F Gx ((.ref a, o) :: (A ++ (L ++ slL σ (ρ.set i none)))) := by
    have z := st2.gd
    rw [List.cons_append, List.append_assoc] at z
    exact z
  obtain ⟨S, hT, hF, hG, hFG, hS, S1, S2, sp, r1, r2⟩ := gd.ex
  obtain ⟨SA, SL, sp2, rA, rL⟩ := RepL.split g A _ S2 r2
  refine ⟨S1, SA, r1, rA, fun b h1 h2 => sp.d b h1 (sp2.l b h2), fun o' u ha ro => ?_⟩
  obtain ⟨nF, nG, _⟩ := hS a (sp.l a ha)
  have st3 : StG g (upd H a u) F Gx σ (ρ.set i none) ((.ref a, o') :: L) := ⟨st2.wf, st2.len, S, hT.wr (sp.l a ha), fun b o e => by
      rw [upd_ne (fun q => by subst q; rw [nF] at e; cases e)]; exact hF b o e, fun b o e => by
      rw [upd_ne (fun q => by subst q; rw [nG] at e; cases e)]; exact hG b o e, hFG, fun b hb => by
      obtain ⟨x, y, z⟩ := hS b hb
      refine ⟨x, y, ?_⟩
      by_cases q : b = a
      · subst q; exact ⟨_, upd_same⟩
      · rw [upd_ne q]; exact z, fun b => S1 b ∨ SA b, SL, ⟨fun b hb => hb.elim (sp.l b) fun hb => sp.r b (sp2.l b hb), fun b hb => sp.r b (sp2.r b hb), fun b h1 h2 => h1.elim (fun h1 => sp.d b h1 (sp2.r b h2)) fun h1 => sp2.d b h1 h2⟩,
      ro, RepL.frame g (Le.refl F) _ SL SL (fun _ h => h) (fun b hb => upd_ne (fun e => sp.d a ha (by rw [← e]; exact sp2.r b hb))) rL⟩
  have hl := st.lt hi
  have st4 := st3.putback (i := i) hv (by simp [hl])
  rw [List.set_set] at st4
  exact st4
/-- parts, behind a write at their holder -/
theorem RepOs.wrote {os : List O} {vs : List V} {S1 SA : Addr → Prop} {a : Addr} {u : HO} (r : RepOs g H F os vs (fun b => (S1 b ∧ b ≠ a) ∨ SA b)) (ha : S1 a) (d : ∀ b, S1 b → SA b → False) : RepOs g (upd H a u) F os vs (fun b => (S1 b ∨ SA b) ∧ b ≠ a) := by
  refine RepOs.frame g (Le.refl F) _ _ _ _ (fun b hb => ?_) (fun b hb => upd_ne ?_) r
  · rcases hb with hb | hb
    · exact ⟨.inl hb.1, hb.2⟩
    · exact ⟨.inr hb, fun e => d a ha (by rw [← e]; exact hb)⟩
  · rcases hb with hb | hb
    · exact hb.2
    · exact fun e => d a ha (by rw [← e]; exact hb)
theorem RepL.one {v : V} {o : O} {S : Addr → Prop} (r : RepL g H F [(v, o)] S) : RepO g H F o v S := by
  obtain ⟨T, T2, sp, ro, _⟩ := r
  exact RepO.sup g (fun b hb => sp.l b hb) ro
end
section
variable {W : WX} {pn : List Nat} {X : Cx} {ca : Ca} {a b : Expr} {fk : M O} {pos : Pos}
theorem PSet.or {t t' : TSet} (h : PSet X t) (h' : PSet X t') : PSet X fun o i v H Q => t o i v H Q ∨ t' o i v H Q := by
  intro pins s σ H o i v ov iv u Q I ro ri rv q
  rcases q with q | q
  · exact h pins s σ H o i v ov iv u Q I ro ri rv q
  · exact h' pins s σ H o i v ov iv u Q I ro ri rv q
theorem RepO.lt_of {g : Gv} {H F : Hp} {o : O} {v : V} {S : Addr → Prop} (r : RepO g H F o v S) {ds : List D} (h : o = .val (.tup ds)) : ∃ b, v = .ref b := by
  subst h
  rw [RepO, RepV] at r
  obtain ⟨a, vs, e, _⟩ := r
  exact ⟨a, e⟩
theorem sto_run {g : Gv} {σ : L2.St} {H F Gx : Hp} {ρ : Sls} {i : Nat} {o o' k v : O} {x kv vv : V} {Q : Hp → Prop} (st : StG g H F Gx σ ρ [(kv, k), (vv, v)]) (hi : ρ[i]? = some (some o)) (hx : σ[i]? = some (some x)) (e : stoG o k v = some o')
    (q : ∀ H', StG g H' F Gx σ (ρ.set i (some o')) [] → Q H') : rSetL x kv vv H Q ∨ rSetN g x kv vv H Q := by
  obtain ⟨x', S, hx', rx⟩ := st.peek hi
  rw [hx] at hx'; cases hx'
  obtain ⟨Sk, rk⟩ := Good.view (B := [(vv, v)] ++ slL σ ρ) st.gd
  unfold stoG at e
  split at e
  · rename_i os n
    obtain ⟨j, hj, rfl⟩ := Option.map_eq_some_iff.mp e
    cases rk.intV
    rw [RepO] at rx
    obtain ⟨a, vs, rfl, sa, hH, rs⟩ := rx
    obtain ⟨S1, SA, r1, rA, d, w⟩ := StG.wr (A := [(vv, v)]) (L := []) st.drop1 hi hx
    rw [RepO] at r1
    obtain ⟨a', vs, e', sa', hH, rs⟩ := r1
    cases e'
    refine .inl ⟨a, vs, n, j, rfl, rfl, hH, by rw [rs.length]; exact hj, q _ (w _ _ sa' ?_)⟩
    rw [RepO]
    exact ⟨a, _, rfl, .inl sa', upd_same, RepOs.wrote (RepOs.set j rs rA.one fun b h1 h2 => d b h1.1 h2) sa' d⟩
  · rename_i ks os kd
    split at e
    · rename_i hk
      obtain ⟨hk1, hk2, hk3⟩ := hk
      cases e
      obtain ⟨ds, kk, rfl, h2, h3⟩ := nkOk_is hk1
      rw [RepO] at rk
      rw [RepO] at rx
      obtain ⟨a, xs, rfl, sa, e2, e3, e4, e5, rs⟩ := rx
      obtain ⟨S1, SA, r1, rA, d, w⟩ := StG.wr (A := [(vv, v)]) (L := []) st.drop1 hi hx
      rw [RepO] at r1
      obtain ⟨a', xs, e', sa', e2, e3, e4, e5, rs⟩ := r1
      cases e'
      have rk' := rk
      rw [RepV] at rk'
      obtain ⟨b, _, rfl, _⟩ := rk'
      have hxs : xs.length = ks.length := by have := congrArg List.length e3; simpa using this.symm
      refine .inr ⟨F, a, xs, ks, .tup ds, kk, b, st.le, rfl, rfl, e5, by rw [hxs]; exact lim_lt hk2, ⟨e2, e3, e4⟩, rk, h2, h3, q _ (w _ _ sa' ?_)⟩
      rw [RepO]
      have nk' := NKs.put (v := vv) h2 h3 rk (ks := ks) (xs := xs) ⟨e2, e3, e4⟩
      refine ⟨a, putN xs kk b vv, rfl, .inl sa', nk'.rep, nk'.nk, nk'.dep, upd_same, ?_⟩
      rw [putN_vals h2 e3]
      exact RepOs.wrote (RepOs.dput hk3 rs rA.one fun b h1 h2 => d b h1.1 h2) sa' d
    · cases e
  · cases e
theorem g_sub (i : Nat) (hu : X.A.units + 65 < cLine) (ha : PE X a (tVar i)) (hb : PE X b (T (gv X ca) W fk))
    (hass : ∀ v, assign (.Subscript a b pos) X.env v = (do
      let ov ← holding [v] (eval a X.env)
      let iv ← holding [v, ov] (eval b X.env)
      standAt pos
      holding [v, ov, iv] (setItem ov iv v)
      release [v, ov, iv] []) := by intro _; rfl) : PG X (.Subscript a b pos) (Tg (gv X ca) W pn (subT i fk)) :=
  PG.imp (pg_sub ha hb (PSet.or set_L (set_N (ca := ca) hu)) hass) fun v σ H Q ⟨F, Gx, ρ, o, st, r⟩ => by
    obtain ⟨o0, h0, r⟩ := r.pk
    obtain ⟨x, hx⟩ := st.wf i o0 h0
    obtain ⟨Gx', st1, back⟩ := st.aside
    refine ⟨x, hx, F, Gx', ρ, st1, (Rn.aside (r.expr (H := H)) fun H' F' ρ' le q => (back H' F' ρ' [] le q).drop1).mono fun k H1 F1 ρ1 le1 r1 kv st2 => ?_⟩
    have st3 := (back H1 F1 ρ1 _ le1 st2).perm (L' := [(kv, k), (v, o)]) (.swap _ _ _)
    obtain ⟨o1, o2, h1, h2, r2⟩ := r1.up
    exact sto_run st3 h1 hx h2 fun H' st4 => r2 H' F1 σ (Le.refl _) (Pin.refl σ) st4
end
end PF

set_option Elab.async false
set_option linter.all false
set_option maxRecDepth 100000
set_option maxHeartbeats 2000000
namespace PF
open PySem PySem.Spec PyProof.Rows L2

section
variable {X : Cx} {ca : Ca}
theorem op_ninE (hu : X.A.units + 65 < cLine) : OpR X (compareOp .NotIn) (rC (gv X ca) ninE) := by
  intro pins s σ H x y v u Q I rx ry ⟨F, oa, ob, S1, S2, b, le, ra, rb, e, q⟩
  obtain ⟨c, e', eb⟩ := Option.map_eq_some_iff.mp (show (inE oa ob).map (!·) = some b from e)
  clear e
  subst eb
  have e := e'
  unfold inE at e
  split at e
  · rename_i ks os hd
    split at e
    · rename_i hk
      cases e
      obtain ⟨ds, k, h1, h2, h3⟩ := nkOk_is hk
      obtain ⟨d, xs, rfl, nk, hH, S', ro⟩ := asD_true le rb hd
      have rv := val_of_fz h1 ra
      have ks2 := nk_is I le _ k x v (h1 ▸ h2) rv rx
      rw [RepV] at rv
      obtain ⟨a, vs, rfl, _⟩ := rv
      cases rx; cases ry
      obtain ⟨z, lo, ys, pr, dd⟩ := dN_of I le nk hH
      refine wpAny_notIn_heap (knd := nestedKind X.prog X.w) (by show X.A.units + 1 + 8 < cLine; omega) ⟨ks2, h3⟩ lo dd ?_
      have rel := dget_at h2 nk.nk pr
      have e2 := RelO.isSome rel
      rw [Option.isSome_map, ← dany (vs := xs.map fun x => x.2.2) (by have := nk.rep.length; simpa using this)] at e2
      rw [e2] at q
      exact ⟨.bl _, H, I.tok _, rfl, q⟩
    · cases e
  · rename_i ks os hd
    split at e
    · rename_i hk
      cases e
      obtain ⟨k, hk⟩ := Option.isSome_iff_exists.mp hk
      obtain ⟨e1, rfl⟩ := key_of_fz hk ra
      obtain ⟨d, us, rfl, hH, S', ro⟩ := asD_false le rb hd
      rw [e1] at q
      rcases hH with ⟨kk, rfl, nd, hl, hH⟩ | ⟨es, n, zs, kd, rfl, rfl, hz⟩
      · rw [dany (vs := us) (by simp [hl]), dget_key hl] at q
        cases ry
        exact d_notIn (by omega) I (DGet.k hH) rx fun s' I' => ⟨.bl _, H, I', rfl, q⟩
      · cases k with
        | inl i => obtain ⟨x, hx⟩ := key_str hk; cases hx
        | inr z =>
          obtain ⟨r, hr, rel⟩ := hz z
          rw [keyD, dany (vs := zs.map fun z => z.2) (by simp), dget_zs, RelO.isSome rel] at q
          exact op_notIn_kd kd pins s σ H _ _ v u Q I rx ry ⟨z, r, rfl, rfl, hr, q⟩
    · cases e
  · exact op_ninC hu pins s σ H x y v u Q I rx ry ⟨F, oa, ob, S1, S2, !c, le, ra, rb, by unfold ninC; rw [e]; rfl, q⟩
theorem itV_some {o : Option O} {res : O} (h : itV o = some res) : ∃ d, o = some (.val d) ∧ res = .val d := by
  unfold itV at h
  split at h
  · cases h; exact ⟨_, rfl, rfl⟩
  · cases h
theorem ix_idxE (hu : X.A.units + 65 < cLine) : IxR X (rB (gv X ca) idxE) := by
  intro value slice pins s σ H x y v u Q I rx ry ⟨F, Gx, σ', ρ, oa, ob, S1, S2, res, st, ra, rb, e, yd⟩ hs
  unfold idxE at e
  split at e
  · rename_i ks os hd
    split at e
    · rename_i hk
      obtain ⟨dr, e', rfl⟩ := itV_some e
      obtain ⟨ds, k, h1, h2, h3⟩ := nkOk_is hk
      obtain ⟨d, xs, rfl, nk, hH, S', ro⟩ := asD_true st.le ra hd
      have rv := val_of_fz h1 rb
      have ks2 := nk_is I st.le _ k y u (h1 ▸ h2) rv ry
      rw [RepV] at rv
      obtain ⟨a, vs, rfl, _⟩ := rv
      cases rx; cases ry
      obtain ⟨z, lo, ys, pr, dd⟩ := dN_of I st.le nk hH
      have rel := dget_at h2 nk.nk pr
      rcases dget_os (x := fz ob) ro with ⟨o, w, S'', e1, e2, r2⟩ | ⟨e1, e2⟩
      · rw [e'] at e1; cases e1
        rw [e2] at rel
        cases q : atKey ys k with
        | none => rw [q] at rel; exact rel.elim
        | some p =>
          rw [q] at rel
          refine tail_any dd.typeIs slot_dict_getitem.lookup (wpAny_getItem_heap (knd := nestedKind X.prog X.w) (by show X.A.units + 1 + 8 < cLine; omega) ⟨ks2, h3⟩ dd q ?_) hs
          exact ⟨w, H, I.tok _, rel, yd.val st (by rw [RepO] at r2; exact r2)⟩
      · rw [e'] at e1; cases e1
    · cases e
  · rename_i ks os hd
    split at e
    · rename_i hk
      obtain ⟨dr, e', rfl⟩ := itV_some e
      obtain ⟨k, hk⟩ := Option.isSome_iff_exists.mp hk
      obtain ⟨e1, rfl⟩ := key_of_fz hk rb
      obtain ⟨d, us, rfl, hH, S', ro⟩ := asD_false st.le ra hd
      rw [e1] at e'
      rcases dget_os (x := keyD k) ro with ⟨o, w, S'', e1, e2, r2⟩ | ⟨e1, e2⟩
      · rw [e'] at e1; cases e1
        have r3 : RepV (gv X ca) F dr w := by rw [RepO] at r2; exact r2
        rcases hH with ⟨kk, rfl, nd, hl, hH⟩ | ⟨es, n, zs, kd, rfl, rfl, hz⟩
        · rw [dget_key hl] at e2
          cases rx
          have gt : DGet H d (kV k) (some w) := by rw [← e2]; exact DGet.k hH
          exact tail_any (dict_typeIs I gt) slot_dict_getitem.lookup (d_getItem (by omega) I gt ry fun w' s3 I3 rw' => ⟨w, H, I3, rw', yd.val st r3⟩) hs
        · cases k with
          | inl i => obtain ⟨x, hx⟩ := key_str hk; cases hx
          | inr z =>
            rw [keyD, dget_zs] at e2
            obtain ⟨r, hr, rel⟩ := hz z
            rw [e2] at rel
            cases r with
            | none => exact rel.elim
            | some u0 =>
              cases rx
              refine tail_any (kd_type kd I) slot_dict_getitem.lookup ?_ hs
              exact op_item_kd kd pins s σ H (.ref d) _ _ u Q I rfl ry ⟨z, u0, w, rfl, rfl, hr, rel, yd.val st r3⟩
      · rw [e'] at e1; cases e1
    · cases e
  · exact ix_idxG value slice pins s σ H x y v u Q I rx ry ⟨F, Gx, σ', ρ, oa, ob, S1, S2, res, st, ra, rb, e, yd⟩ hs
variable {W : WX} {a b : Expr} {ta tb : TE} {f : M (O × O)} {pos p2 : Pos}
theorem e_ix (hu : X.A.units + 65 < cLine) (p : Pr (gv X ca) W ta tb f) (ha : PE X a ta) (hb : PE X b tb) (hs : PlainIx b := by exact fun _ _ => rfl) : PE X (.Subscript a b pos) (T (gv X ca) W (binF idxE f)) :=
  PE.imp (pe_ix (ix_idxE hu) ha hb hs) fun σ H Q ⟨F, Gx, ρ, st, r⟩ => p σ H _ ⟨F, Gx, ρ, st, r.bind.mono fun p H' F' ρ' le r1 x y S1 S2 st' rx ry => by
    obtain ⟨res, e, q⟩ := r1.of
    exact ⟨F', Gx, σ, ρ', _, _, S1, S2, res, st', rx, ry, e, fun v H2 F2 le2 st2 => q H2 F2 le2 v st2⟩⟩
/-! ### {} -/
theorem dN_empty {P : Program} {w : World} {K : PySem.W.Frag} {H : Hp} (h : Heap) (hb : sysModules < h.objs.size) : ObjOk P w H (h.push { cls := .type "dict", data := .dict #[] }) h.objs.size (dTN ⟨P, w, K, ca⟩ h.objs.size []) :=
  dN_new (Nat.zero_le _) (beq_eq_false_iff_ne.mpr (Ne.symm (Nat.ne_of_lt hb))) .nil ⟨_, #[], 0, Heap.get?_push_size _ rfl, ⟨rfl, rfl, rfl⟩, rfl, rfl, fun _ h => (nomatch h), List.nodup_nil⟩
theorem e_dnew : PE X (.Dict [] [] pos) (T (gv X ca) W (M.pure (.dct true [] []))) := ⟨fun pins s σ H Q I ⟨F, Gx, ρ, st, r⟩ => by
  have hn := I.hok.fresh (Nat.le_refl s.heap.objs.size)
  refine wpAny_Dict_empty ⟨.ref s.heap.objs.size, _, I.laid (a := s.heap.objs.size) (o := dTN (gv X ca) s.heap.objs.size []) (t' := s.toks) (fun _ _ q => Heap.get?_push_of_some _ q) (Nat.le_refl _) (dN_empty s.heap I.big), rfl, r.pure _ F (Le.refl F) _ ⟨st.wf, st.len, Good.newO (L := slL σ ρ) st.gd hn fun S hS => ?_⟩⟩
  rw [RepO]
  exact ⟨_, [], rfl, hS, by rw [List.map_nil, RepVs], rfl, fun _ h => (nomatch h), upd_same, by rw [List.map_nil, RepOs]⟩⟩
end
end PF

set_option Elab.async false
set_option linter.all false
set_option maxRecDepth 100000
set_option maxHeartbeats 2000000
namespace PF
open PySem PySem.Spec PyProof.Rows L2

/-! ### built-in calls -/
theorem view1 {g : Gv} {H F : Hp} {o : O} {vs : List V} (h : ViewL g H F [o] vs) : ∃ v S, vs = [v] ∧ RepO g H F o v S := by
  obtain ⟨v, r, S, rfl, h1, rfl⟩ := h
  exact ⟨v, S, rfl, h1⟩
theorem view2 {g : Gv} {H F : Hp} {o p : O} {vs : List V} (h : ViewL g H F [o, p] vs) : ∃ v w S T, vs = [v, w] ∧ RepO g H F o v S ∧ RepO g H F p w T := by
  obtain ⟨v, r, S, rfl, h1, w, t, T, rfl, h2, rfl⟩ := h
  exact ⟨v, w, S, T, rfl, h1, h2⟩
def lenF : List O → Option O
  | [.val (.str z)] => if z.length ≤ lim then some (.val (.int z.length)) else none
  | [.val (.tup ds)] => some (.val (.int ds.length))
  | [.val (.scr ds)] => some (.val (.int ds.length))
  | [.val (.lst ds)] => some (.val (.int ds.length))
  | [.lst os] => some (.val (.int os.length))
  | _ => none
def D.tyS : D → Option String
  | .non => some "NoneType"
  | .bl _ => some "bool"
  | .int _ => some "int"
  | .str _ => some "str"
  | .tup _ => some "tuple"
  | .lst _ => some "list"
  | .scr _ => some "list"
  | _ => none
def O.tyS : O → Option String
  | .val d => d.tyS
  | .lst _ => some "list"
  | _ => none
def kitA (t : String) : List D → Option Bool
  | [] => some false
  | .ty c :: ds => match kitB t c, kitA t ds with
    | some a, some b => some (a || b)
    | _, _ => none
  | _ :: _ => none
def isiF : List O → Option O
  | [o, .val (.ty c)] => match o.tyS with
    | some t => (kitB t c).map fun b => .val (.bl b)
    | none => none
  | [o, .val (.tup ds)] => match o.tyS with
    | some t => (kitA t ds).map fun b => .val (.bl b)
    | none => none
  | _ => none
def tupF : List O → Option O
  | [o] => match o.dsT with
    | some ds => some (.val (.tup ds))
    | none => match o.dsL with
      | some ds => some (.val (.tup ds))
      | none => none
  | _ => none
def lstF : List O → Option O
  | [.val (.scr ns)] => some (.lst (ns.map fun n => .val (.int n)))
  | [o] => match o.dsT with
    | some ds => some (.lst (ds.map .val))
    | none => match o.dsL with
      | some ds => some (.lst (ds.map .val))
      | none => none
  | _ => none
def intF : List O → Option O
  | [.val (.int i)] => some (.val (.int i))
  | [.val (.bl k)] => some (.val (.int (if k then 1 else 0)))
  | _ => none
def absF : List O → Option O
  | [.val (.int i)] => some (.val (.int (if i < 0 then -i else i)))
  | _ => none
def max2F : List O → Option O
  | [.val (.int i), .val (.int j)] => some (.val (.int (if j > i then j else i)))
  | _ => none
def min2F : List O → Option O
  | [.val (.int i), .val (.int j)] => some (.val (.int (if j < i then j else i)))
  | _ => none
section
variable {g : Gv} {H F : Hp}
theorem tyT {K : PySem.W.Frag} {a : Addr} {vs : List V} (h : SqT K H a vs) : TyX K H (.ref a) (.type "tuple") := by
  rcases h with (h | ⟨o, h⟩) | ⟨o, its, n, h, c, _⟩
  · exact .base (.tup h)
  · exact .fTuple h
  · exact .kTuple h c
theorem tyL {K : PySem.W.Frag} {a : Addr} {vs : List V} (h : SqL K H a vs) : TyX K H (.ref a) (.type "list") := by
  rcases h with (h | ⟨o, h⟩) | ⟨o, its, n, h, c, _⟩
  · exact .base (.lst h)
  · exact .base (.frz h)
  · exact .kList h c
theorem ty_of {o : O} {v : V} {S : Addr → Prop} {t : String} (le : Le F H) (r : RepO g H F o v S) (h : o.tyS = some t) : TyX g.K H v (.type t) := by
  cases o with
  | val d =>
    rw [RepO] at r
    cases d with
    | non => cases h; rw [RepV] at r; subst r; exact .base .non
    | bl b => cases h; rw [RepV] at r; subst r; exact .base (.bl b)
    | int b => cases h; rw [RepV] at r; subst r; exact .base (.int b)
    | str b => cases h; rw [RepV] at r; subst r; exact .base (.str b)
    | tup ds => cases h; rw [RepV] at r; obtain ⟨a, vs, rfl, q, _⟩ := r; exact tyT (SqT.mono le q)
    | lst ds => cases h; rw [RepV] at r; obtain ⟨a, vs, rfl, q, _⟩ := r; exact .base (.lst (le _ _ q))
    | scr ds => cases h; rw [RepV] at r; obtain ⟨a, rfl, q⟩ := r; exact tyL (SqL.mono le q)
    | _ => cases h
  | lst os => cases h; rw [RepO] at r; obtain ⟨a, vs, rfl, _, q, _⟩ := r; exact .base (.lst q)
  | _ => cases h
theorem kitA_ok {K : PySem.W.Frag} {t : String} : ∀ {ds : List D} {vs : List V} {b : Bool}, RepVs g F ds vs → kitA t ds = some b → ∃ us, Paired ClsV vs us ∧ PySem.W.kitAny K (.type t) us = some b
  | [], vs, b, r, h => by
    rw [RepVs] at r; subst r
    cases h
    exact ⟨[], .nil, kitAny_nil⟩
  | .ty c :: ds, vs, b, r, h => by
    rw [RepVs] at r
    obtain ⟨v, w, rfl, r1, r2⟩ := r
    rw [RepV] at r1; subst r1
    rw [kitA] at h
    split at h
    · rename_i a b' q1 q2
      cases h
      obtain ⟨us, p, e⟩ := kitA_ok r2 q2
      exact ⟨.type c :: us, .cons (.ty c) p, kitAny_cons (kit_ty q1) (fun z => by rw [e, z]; rfl) fun z => by rw [z]; rfl⟩
    · cases h
  | .non :: _, vs, b, r, h => by cases h
  | .bl _ :: _, vs, b, r, h => by cases h
  | .int _ :: _, vs, b, r, h => by cases h
  | .str _ :: _, vs, b, r, h => by cases h
  | .tup _ :: _, vs, b, r, h => by cases h
  | .lst _ :: _, vs, b, r, h => by cases h
  | .dct _ _ _ :: _, vs, b, r, h => by cases h
  | .ins _ _ _ :: _, vs, b, r, h => by cases h
  | .scr _ :: _, vs, b, r, h => by cases h
end
section
variable {X : Cx} {ca : Ca}
theorem cb_len : CallR X (.builtin "len") (rF (gv X ca) lenF) := by
  intro pins s σ H xs us Q I rv ⟨F, Gx, σ', ρ, os, res, st, vw, e, yd⟩
  unfold lenF at e
  split at e
  · split at e
    · rename_i hz
      cases e
      obtain ⟨v, S, rfl, r⟩ := view1 vw
      cases r.strV
      exact call_len pins s σ H _ us Q I rv ⟨_, _, rfl, ⟨lim_le hz, rfl⟩, yd.val st repI⟩
    · cases e
  · cases e
    obtain ⟨v, S, rfl, r⟩ := view1 vw
    obtain ⟨a, vs, rfl, q, r⟩ := dsT_ok st.le r rfl
    exact call_len pins s σ H _ us Q I rv ⟨_, _, rfl, .inr ⟨vs, q, r.length.symm⟩, yd.val st repI⟩
  · cases e
    obtain ⟨v, S, rfl, r⟩ := view1 vw
    rw [RepO, RepV] at r
    obtain ⟨a, rfl, q⟩ := r
    exact call_len pins s σ H _ us Q I rv ⟨_, _, rfl, .inl ⟨_, SqL.mono st.le q, by rw [List.length_map]⟩, yd.val st repI⟩
  · cases e
    obtain ⟨v, S, rfl, r⟩ := view1 vw
    obtain ⟨a, vs, rfl, q, r⟩ := dsL_ok st.le r rfl
    exact call_len pins s σ H _ us Q I rv ⟨_, _, rfl, .inl ⟨_, SqL.of q, r.length.symm⟩, yd.val st repI⟩
  · cases e
    obtain ⟨v, S, rfl, r⟩ := view1 vw
    rw [RepO] at r
    obtain ⟨a, vs, rfl, sa, q, r⟩ := r
    exact call_len pins s σ H _ us Q I rv ⟨_, _, rfl, .inl ⟨_, SqL.of q, r.length.symm⟩, yd.val st repI⟩
  · cases e
theorem cb_isi : CallR X (.builtin "isinstance") (rF (gv X ca) isiF) := by
  intro pins s σ H xs us Q I rv ⟨F, Gx, σ', ρ, os, res, st, vw, e, yd⟩
  unfold isiF at e
  split at e
  · split at e
    · rename_i t ht
      obtain ⟨b, hb, rfl⟩ := Option.map_eq_some_iff.mp e
      obtain ⟨v, w, S, T', rfl, r1, r2⟩ := view2 vw
      rw [RepO, RepV] at r2
      subst r2
      exact call_isi pins s σ H _ us Q I rv ⟨v, _, _, _, b, rfl, .ty _, ty_of st.le r1 ht, kit_ty hb, yd.val st repB⟩
    · cases e
  · split at e
    · rename_i t ht
      obtain ⟨b, hb, rfl⟩ := Option.map_eq_some_iff.mp e
      obtain ⟨v, w, S, T', rfl, r1, r2⟩ := view2 vw
      obtain ⟨a, vs, rfl, q, r⟩ := dsT_ok st.le r2 rfl
      obtain ⟨cs, p, e2⟩ := kitA_ok r hb
      obtain ⟨u1, u2, rfl, x1, x2⟩ := vals2 rv
      cases (show u2 = Value.ref a from x2)
      obtain ⟨P, Z, p3, hx⟩ := kit_of I x1 (ty_of st.le r1 ht)
      obtain ⟨its, rv2, ⟨o, ho, hc, n, hd⟩, _⟩ := I.tuple q
      obtain ⟨oc, od, dt, sl⟩ := o
      simp only at hc hd
      subst hc hd
      have e3 := ClsV.all p rv2
      subst e3
      exact PySem.W.kia_tup Z I.kIn p3 ho e2 hx fun tk => ⟨.bl b, H, I.tok tk, rfl, yd.val st repB⟩
    · cases e
  · cases e
theorem cb_tuple : CallR X (.type "tuple") (rF (gv X ca) tupF) := by
  intro pins s σ H xs us Q I rv ⟨F, Gx, σ', ρ, os, res, st, vw, e, yd⟩
  unfold tupF at e
  split at e
  · rename_i o
    obtain ⟨v, S, rfl, r⟩ := view1 vw
    split at e
    · rename_i ds hd
      cases e
      obtain ⟨a, vs, rfl, q, r'⟩ := dsT_ok st.le r hd
      refine call_tuple_of pins s σ H _ us Q I rv ⟨a, vs, rfl, .inr ⟨q, ?_⟩⟩
      have : o = .val (.tup ds) := by
        unfold O.dsT at hd
        split at hd
        · cases hd; rfl
        · cases hd
      subst this
      rw [RepO] at r
      exact yd.val st r
    · split at e
      · rename_i ds hd
        cases e
        obtain ⟨a, vs, rfl, q, r'⟩ := dsL_ok st.le r hd
        exact call_tuple_of pins s σ H _ us Q I rv ⟨a, vs, rfl, .inl ⟨SqL.of q, yd.tup st r'⟩⟩
      · cases e
  · cases e
theorem RepVs.ints {g : Gv} {F : Hp} : ∀ (ns : List Int), RepVs g F (ns.map D.int) (ns.map V.int)
  | [] => by rw [List.map_nil, List.map_nil, RepVs]
  | n :: ns => by rw [List.map_cons, List.map_cons, RepVs]; exact ⟨_, _, rfl, repI, RepVs.ints ns⟩
theorem cb_list : CallR X (.type "list") (rF (gv X ca) lstF) := by
  intro pins s σ H xs us Q I rv ⟨F, Gx, σ', ρ, os, res, st, vw, e, yd⟩
  unfold lstF at e
  split at e
  · rename_i ns
    cases e
    obtain ⟨v, S, rfl, r⟩ := view1 vw
    rw [RepO, RepV] at r
    obtain ⟨a, rfl, q⟩ := r
    have yd' : Yd (gv X ca) H F Gx σ' ρ (.lst ((ns.map D.int).map .val)) Q := by rw [List.map_map]; exact yd
    exact call_list_of pins s σ H _ us Q I rv ⟨a, _, rfl, .inl (SqL.mono st.le q), yd'.lst st (RepVs.ints ns)⟩
  · rename_i o _
    obtain ⟨v, S, rfl, r⟩ := view1 vw
    split at e
    · rename_i ds hd
      cases e
      obtain ⟨a, vs, rfl, q, r'⟩ := dsT_ok st.le r hd
      exact call_list_of pins s σ H _ us Q I rv ⟨a, vs, rfl, .inr q, yd.lst st r'⟩
    · split at e
      · rename_i ds hd
        cases e
        obtain ⟨a, vs, rfl, q, r'⟩ := dsL_ok st.le r hd
        exact call_list_of pins s σ H _ us Q I rv ⟨a, vs, rfl, .inl (SqL.of q), yd.lst st r'⟩
      · cases e
  · cases e
theorem cb_int : CallR X (.type "int") (rF (gv X ca) intF) := by
  intro pins s σ H xs us Q I rv ⟨F, Gx, σ', ρ, os, res, st, vw, e, yd⟩
  unfold intF at e
  split at e
  · cases e
    obtain ⟨v, S, rfl, r⟩ := view1 vw
    cases r.intV
    exact call_int1 pins s σ H _ us Q I rv (.inl ⟨_, rfl, yd.val st repI⟩)
  · cases e
    obtain ⟨v, S, rfl, r⟩ := view1 vw
    cases r.blV
    exact call_int1 pins s σ H _ us Q I rv (.inr ⟨_, rfl, yd.val st repI⟩)
  · cases e
theorem cb_abs : CallR X (.builtin "abs") (rF (gv X ca) absF) := by
  intro pins s σ H xs us Q I rv ⟨F, Gx, σ', ρ, os, res, st, vw, e, yd⟩
  unfold absF at e
  split at e
  · cases e
    obtain ⟨v, S, rfl, r⟩ := view1 vw
    cases r.intV
    exact call_abs pins s σ H _ us Q I rv ⟨_, rfl, yd.val st repI⟩
  · cases e
theorem cb_max2 (hc : X.calm = true) : CallR X (.builtin "max") (rF (gv X ca) max2F) := by
  intro pins s σ H xs us Q I rv ⟨F, Gx, σ', ρ, os, res, st, vw, e, yd⟩
  unfold max2F at e
  split at e
  · cases e
    obtain ⟨v, w, S, T', rfl, r1, r2⟩ := view2 vw
    cases r1.intV; cases r2.intV
    exact call_max2 hc pins s σ H _ us Q I rv ⟨_, _, rfl, yd.val st repI⟩
  · cases e
theorem cb_min2 (hc : X.calm = true) : CallR X (.builtin "min") (rF (gv X ca) min2F) := by
  intro pins s σ H xs us Q I rv ⟨F, Gx, σ', ρ, os, res, st, vw, e, yd⟩
  unfold min2F at e
  split at e
  · cases e
    obtain ⟨v, w, S, T', rfl, r1, r2⟩ := view2 vw
    cases r1.intV; cases r2.intV
    exact call_min2 hc pins s σ H _ us Q I rv ⟨_, _, rfl, yd.val st repI⟩
  · cases e
end
end PF

set_option Elab.async false
set_option linter.all false
set_option maxRecDepth 100000
set_option maxHeartbeats 2000000
namespace PF
open PySem PySem.Spec PyProof.Rows L2
open PySem.W (alike alikeAll dataLe dataLt AllAlike Sortable EachIs)

theorem toPys_map : ∀ ds : List D, toPys ds = ds.map toPy
  | [] => rfl
  | d :: ds => by rw [toPys, toPys_map ds]; rfl
mutual
theorem toPy_inj : ∀ (n m : Nat) (a b : D), okD n a = true → okD m b = true → toPy a = toPy b → a = b
  | n, m, .non, b, h, h', e => by
    cases b <;> first
      | rfl
      | (simp [toPy] at e; done)
      | (cases m <;> simp [okD] at h'; done)
  | n, m, .bl x, b, h, h', e => by
    cases b <;> first
      | (simp [toPy] at e; done)
      | (simp [toPy] at e; rw [e]; done)
      | (cases m <;> simp [okD] at h'; done)
  | n, m, .int x, b, h, h', e => by
    cases b <;> first
      | (simp [toPy] at e; done)
      | (simp [toPy] at e; rw [e]; done)
      | (cases m <;> simp [okD] at h'; done)
  | n, m, .str x, b, h, h', e => by
    cases b <;> first
      | (simp [toPy] at e; done)
      | (simp [toPy] at e; rw [e]; done)
      | (cases m <;> simp [okD] at h'; done)
  | n, m, .tup xs, b, h, h', e => by
    cases b with
    | tup ys =>
      obtain ⟨k, rfl, hk⟩ := okD_tup.mp h
      obtain ⟨l, rfl, hl⟩ := okD_tup.mp h'
      rw [toPy, toPy] at e
      rw [toPys_inj k l xs ys hk hl (by injection e)]
    | _ => first
      | (simp [toPy] at e; done)
      | (cases m <;> simp [okD] at h'; done)
  | n, m, .lst xs, b, h, h', e => by
    cases b with
    | lst ys =>
      obtain ⟨k, rfl, hk⟩ := okD_lst.mp h
      obtain ⟨l, rfl, hl⟩ := okD_lst.mp h'
      rw [toPy, toPy] at e
      rw [toPys_inj k l xs ys hk hl (by injection e)]
    | _ => first
      | (simp [toPy] at e; done)
      | (cases m <;> simp [okD] at h'; done)
  | n, m, .dct _ _ _, b, h, h', e => by cases n <;> simp [okD] at h
  | n, m, .ins _ _ _, b, h, h', e => by cases n <;> simp [okD] at h
  | n, m, .scr _, b, h, h', e => by cases n <;> simp [okD] at h
  | n, m, .ty _, b, h, h', e => by cases n <;> simp [okD] at h
  | n, m, .exn _ _ _, b, h, h', e => by cases n <;> simp [okD] at h
theorem toPys_inj : ∀ (n m : Nat) (a b : List D), (∀ d ∈ a, okD n d = true) → (∀ d ∈ b, okD m d = true) → toPys a = toPys b → a = b
  | n, m, [], [], _, _, _ => rfl
  | n, m, [], _ :: _, _, _, e => by simp [toPys] at e
  | n, m, _ :: _, [], _, _, e => by simp [toPys] at e
  | n, m, x :: xs, y :: ys, h, h', e => by
    rw [toPys, toPys] at e
    injection e with e1 e2
    rw [toPy_inj n m x y (h x (by simp)) (h' y (by simp)) e1, toPys_inj n m xs ys (fun d hd => h d (by simp [hd])) (fun d hd => h' d (by simp [hd])) e2]
end
mutual
theorem reads_lt {h : Heap} : ∀ (d : PyData) (v : Value) (as : List Addr), alike d d = true → Reads h v d as → ∀ a ∈ as, a < h.objs.size
  | .none, _, _, _, r => by cases r; intro a m; cases m
  | .bool _, _, _, _, r => by cases r; intro a m; cases m
  | .int _, _, _, _, r => by cases r; intro a m; cases m
  | .str _, _, _, _, r => by cases r; intro a m; cases m
  | .list xs, _, _, al, r => by
    cases r with
    | list h1 h2 h3 h4 =>
      intro a m
      rcases List.mem_cons.mp m with rfl | m
      · exact Heap.lt_size h1
      · exact readsAll_lt xs _ _ (by simpa [alike] using al) h4 a m
  | .tuple xs, _, _, al, r => by
    cases r with
    | tuple h1 h2 h3 h4 => exact readsAll_lt xs _ _ (by simpa [alike] using al) h4
  | .dict _, _, _, al, _ => absurd al (by simp [alike])
theorem readsAll_lt {h : Heap} : ∀ (ds : List PyData) (vs : List Value) (as : List Addr), alikeAll ds ds = true → ReadsAll h vs ds as → ∀ a ∈ as, a < h.objs.size
  | [], _, _, _, r => by cases r; intro a m; cases m
  | d :: ds, _, _, al, r => by
    cases r with
    | cons h1 h2 =>
      intro a m
      rcases List.mem_append.mp m with m | m
      · exact reads_lt d _ _ (PySem.W.alike_all_cons al).1 h1 a m
      · exact readsAll_lt ds _ _ (PySem.W.alike_all_cons al).2 h2 a m
end
/-- all may be put in order -/
def D.srt : D → Bool
  | .tup (_ :: _) => true
  | _ => false
def D.plain : D → Bool
  | .bl _ => true
  | .int _ => true
  | .str _ => true
  | .lst _ => true
  | _ => false
def srtOk (ds : List D) : Bool := ds.all (okD 16) && ds.all (fun x => ds.all fun y => alike (toPy x) (toPy y)) && (ds.all D.srt || ds.all D.plain) && decide (ds.length ≤ lim)
def srtD (ds : List D) : List D := ds.mergeSort (dataLe false toPy)
structure SrtOk (ds : List D) : Prop where
  ok : ∀ d ∈ ds, okD 16 d = true
  al : AllAlike (ds.map toPy)
  so : Sortable (ds.map toPy)
  len : ds.length ≤ lim
theorem srtOk_is {ds : List D} (h : srtOk ds = true) : SrtOk ds := by
  unfold srtOk at h
  rw [Bool.and_eq_true, Bool.and_eq_true, Bool.and_eq_true] at h
  obtain ⟨⟨⟨h1, h2⟩, h3⟩, h4⟩ := h
  rw [List.all_eq_true] at h1 h2
  refine ⟨h1, fun a ha b hb => ?_, ?_, of_decide_eq_true h4⟩
  · obtain ⟨x, hx, rfl⟩ := List.mem_map.mp ha
    obtain ⟨y, hy, rfl⟩ := List.mem_map.mp hb
    exact List.all_eq_true.mp (h2 x hx) y hy
  · rw [Bool.or_eq_true, List.all_eq_true, List.all_eq_true] at h3
    rcases h3 with h3 | h3
    · refine .inl fun a ha => ?_
      obtain ⟨x, hx, rfl⟩ := List.mem_map.mp ha
      have q := h3 x hx
      cases x with
      | tup xs =>
        cases xs with
        | nil => cases q
        | cons x xs => exact ⟨toPy x, toPys xs, by rw [toPy, toPys]⟩
      | _ => cases q
    · refine .inr fun a ha => ?_
      obtain ⟨x, hx, rfl⟩ := List.mem_map.mp ha
      have q := h3 x hx
      cases x <;> first
        | (simp [toPy]; done)
        | (cases q; done)
section
variable {X : Cx} {ca : Ca} {pins : List (Addr × Obj)} {σ : L2.St} {H F : Hp} {s : Shared} {g : Gv}
theorem each_rep (I : Inv X pins σ H s) (le : Le F H) : ∀ {ds : List D} {vs : List V} {us : List Value}, RepVs (gv X ca) F ds vs → Vals vs us → EachIs (fun u d => ∃ v, RelV v u ∧ RepV (gv X ca) F d v) us ds
  | [], vs, us, r, q => by rw [RepVs] at r; subst r; cases q; exact .nil
  | d :: ds, vs, us, r, q => by
    rw [RepVs] at r
    obtain ⟨v, w, rfl, r1, r2⟩ := r
    cases q with
    | cons q1 q2 => exact .cons ⟨v, q1, r1⟩ (each_rep I le r2 q2)
theorem rep_each : ∀ {ds : List D} {us : List Value}, EachIs (fun u d => ∃ v, RelV v u ∧ RepV (gv X ca) F d v) us ds → ∃ vs, RepVs (gv X ca) F ds vs ∧ Vals vs us
  | [], _, .nil => ⟨[], by rw [RepVs], .nil⟩
  | d :: ds, _, .cons ⟨v, h1, h2⟩ t => by
    obtain ⟨vs, r, q⟩ := rep_each t
    exact ⟨v :: vs, by rw [RepVs]; exact ⟨v, vs, rfl, h2, r⟩, .cons h1 q⟩
theorem each_reads (I : Inv X pins σ H s) (le : Le F H) : ∀ {ds : List D} {vs : List V} {us : List Value}, (∀ d ∈ ds, okD 16 d = true) → RepVs (gv X ca) F ds vs → Vals vs us → EachIs (fun u d => ∃ as, Reads s.heap u (toPy d) as) us ds
  | [], vs, us, _, r, q => by rw [RepVs] at r; subst r; cases q; exact .nil
  | d :: ds, vs, us, h, r, q => by
    rw [RepVs] at r
    obtain ⟨v, w, rfl, r1, r2⟩ := r
    cases q with
    | cons q1 q2 => exact .cons (Dp.reads I _ v _ (dp_of 16 d v le (h d (by simp)) r1) q1) (each_reads I le (fun x hx => h x (by simp [hx])) r2 q2)
end
/-- keys that sorted(d) or a walk meets -/
def O.keysT : O → Option (List D)
  | .val (.dct true ks _) => some ks
  | .dct true ks _ => some ks
  | _ => none
def srtF : List O → Option O
  | [o] => match o.keysT with
    | some ks => if srtOk ks = true then some (.lst ((srtD ks).map .val)) else none
    | none => match o.dsL with
      | some ds => if srtOk ds = true then some (.lst ((srtD ds).map .val)) else none
      | none => none
  | _ => none
section
variable {X : Cx} {ca : Ca}
theorem keysT_ok {g : Gv} {H F : Hp} {o : O} {v : V} {S : Addr → Prop} {ks : List D} (le : Le F H) (r : RepO g H F o v S) (h : o.keysT = some ks) : ∃ a, ∃ xs : List (NestedKey × Addr × V), v = .ref a ∧ NKs g F ks xs ∧ H a = some (dTN g a xs) := by
  unfold O.keysT at h
  split at h
  · cases h
    obtain ⟨a, xs, e1, e2, e3, _⟩ := asD_true le r rfl
    exact ⟨a, xs, e1, e2, e3⟩
  · cases h
    obtain ⟨a, xs, e1, e2, e3, _⟩ := asD_true le r rfl
    exact ⟨a, xs, e1, e2, e3⟩
  · cases h
theorem vals_refs2 : ∀ {xs : List (NestedKey × Addr × V)} {ys : List (NestedKey × Addr × Value)}, Paired NRel xs ys → Vals (xs.map fun x => V.ref x.2.1) (ys.map fun y => Value.ref y.2.1)
  | [], [], .nil => .nil
  | x :: xs, y :: ys, .cons r t => .cons (by obtain ⟨_, e, _⟩ := r; show RelV (V.ref x.2.1) (Value.ref y.2.1); rw [e]; exact rfl) (vals_refs2 t)
theorem cb_sorted (hc : X.calm = true) (hu : X.A.units + 65 < cLine) : CallR X (.builtin "sorted") (rF (gv X ca) srtF) := by
  intro pins s σ H xs us Q I rv ⟨F, Gx, σ', ρ, os, res, st, vw, e, yd⟩
  unfold srtF at e
  split at e
  · rename_i o
    obtain ⟨v, S, rfl, r⟩ := view1 vw
    obtain ⟨u, rfl, ru⟩ := vals1 rv
    split at e
    · rename_i ks hk
      split at e
      · rename_i hs
        cases e
        have so := srtOk_is hs
        obtain ⟨a, xs, rfl, nk, hH⟩ := keysT_ok st.le r hk
        cases ru
        obtain ⟨z, lo, ys, pr, dd⟩ := dN_of I st.le nk hH
        obtain ⟨o, es, ep, ho, hx, hdt, he, hi, hn⟩ := id dd
        have l1 : es.size = ys.length := size_of_entries he
        have l2 : xs.length = ys.length := Paired.length pr
        have lk : ks.length = ys.length := by have := nk.rep.length; rw [← l2, ← this, List.length_map]
        have hlim := so.len
        refine Calls.call_function_entry PyProof.Rows.kind_sorted PyProof.Rows.plain_sorted PyProof.Rows.entry_sorted (PyProof.Rows.args_sorted1 _) ?_
        unfold Builtin.«sorted»
        refine wpAny_bind (m := checkCount "sorted" 1 1 _) (wpAny_pure ?_)
        refine wpAny_bind (PySem.W.kdu_collect (A := X.A.in1) (kdl_raw lo hx hdt) (I.ok.hd hc) ho (by omega) fun h' tk acc kp it => ?_)
        have ea : acc.toList = ys.map fun x => Value.ref x.2.1 := by
          have hl : acc.toList.length = ys.length := by rw [Array.length_toList, it.1]; exact l1
          apply List.ext_getElem?
          intro j
          rw [List.getElem?_map]
          cases hj : acc.toList[j]? with
          | none =>
            have h1 := List.getElem?_eq_none_iff.mp hj
            rw [List.getElem?_eq_none (by omega)]
            all_goals rfl
          | some v =>
            obtain ⟨en, hen, hv⟩ := it.2 j v (by rw [← Array.getElem?_toList]; exact hj)
            have qe := entry_at he j
            rw [hen] at qe
            cases hb : ys[j]? with
            | none => rw [hb] at qe; exact nomatch (show some en = none from qe)
            | some b =>
              rw [hb] at qe
              have e2 : en = entryOfKey (nestedKind X.prog X.w) b := Option.some.inj qe
              rw [hv, e2]
              all_goals rfl
        have I1 : Inv X pins σ H { s with heap := h', toks := tk } := I.kept kp
        have vl : Vals (xs.map fun x => V.ref x.2.1) acc.toList := by rw [ea]; exact vals_refs2 pr
        have al : acc.toList.length = ks.length := by rw [ea, List.length_map, lk]
        have hzl : acc.toList.length ≤ sizeLine := by rw [al]; exact lim_le so.len
        refine wpAny_bind (wpAny_newList ?_ hzl)
        have hoL : (h'.push (seqObj "list" acc.toList.toArray 0)).get? h'.objs.size = some (seqObj "list" acc.toList.toArray 0) := Heap.get?_push_size _ rfl
        have er := each_reads I1 st.le so.ok nk.rep vl
        have er2 : EachIs (fun u d => ∃ as, Reads (h'.push (seqObj "list" acc.toList.toArray 0)) u (toPy d) as ∧ h'.objs.size ∉ as) acc.toList ks := (PySem.W.each_mem er).mono fun u d ⟨⟨as, q⟩, hd⟩ => ⟨as, PyProof.Rows.Reads.keeps (fun _ _ w => Heap.get?_push_of_some _ w) q, fun m => by
          have hm := List.mem_map_of_mem (f := toPy) hd
          exact Nat.lt_irrefl _ (reads_lt _ _ _ (so.al _ hm _ hm) q _ m)⟩
        refine wpAny_bind (wpAny_holding (PySem.W.list_sort_data (s := { s with heap := h'.push (seqObj "list" acc.toList.toArray 0), toks := tk }) (enc := toPy) hoL (each_rep (ca := ca) I1 st.le nk.rep vl) er2 so.al so.so (lim_le so.len) (fun b hb => ?_) fun out hl ei => ?_))
        · have := (okD_lay 16 b (so.ok b hb)).2
          show X.A.units + 1 + 1 + _ < _
          omega
        · obtain ⟨ws, rw', vw'⟩ := rep_each ei
          obtain ⟨ep2, he2⟩ := PyProof.Rows.sortedHeap_at (vs := acc.toList) (out := out.toArray) hoL
          have wl : ws.length ≤ sizeLine := by rw [vw'.length, hl]; exact lim_le so.len
          refine wpAny_pure ⟨_, rfl, .ref h'.objs.size, upd H h'.objs.size (.lst ws), I1.laid (t' := tk) (fun b u e => ?_) (Nat.le_refl _) (show ObjOk X.prog X.w _ _ _ (.lst ws) from ⟨wl, out, ep2, vw', he2⟩), rfl, yd.lst st rw' _ (I1.hok.fresh (Nat.le_refl _))⟩
          have hb : b < h'.objs.size := Heap.lt_size e
          rw [PyProof.Rows.sortedHeap_old (Nat.ne_of_lt hb) (by rw [size_push']; exact Nat.lt_succ_of_lt hb)]
          exact Heap.get?_push_of_some _ e
      · cases e
    · split at e
      · rename_i ds hd
        split at e
        · rename_i hs
          cases e
          have so := srtOk_is hs
          obtain ⟨a, vs, rfl, q, rr⟩ := dsL_ok st.le r hd
          cases ru
          obtain ⟨its, vl, pl, hz⟩ := I.list (SqL.of q)
          refine PySem.W.sorted_data (enc := toPy) pl.isList (each_rep (ca := ca) I st.le rr vl) (each_reads I st.le so.ok rr vl) so.al so.so (lim_le so.len) (fun b hb => ?_) fun out hl ei => ?_
          · have := (okD_lay 16 b (so.ok b hb)).2
            omega
          · obtain ⟨ws, rw', vw'⟩ := rep_each ei
            obtain ⟨ep2, he2⟩ := PyProof.Rows.sortedAll_at s.heap its out.toArray
            have wl : ws.length ≤ sizeLine := by rw [vw'.length, hl]; exact lim_le so.len
            exact ⟨.ref (s.heap.objs.size + 1), upd H _ (.lst ws), I.laid (t' := s.toks) (fun b u e => PyProof.Rows.sortedAll_old e) (Nat.le_succ _) (show ObjOk X.prog X.w _ _ _ (.lst ws) from ⟨wl, out, ep2, vw', he2⟩), rfl, yd.lst st rw' _ (I.hok.fresh (Nat.le_succ _))⟩
        · cases e
      · cases e
  · cases e
end
end PF

set_option Elab.async false
set_option linter.all false
set_option maxRecDepth 100000
set_option maxHeartbeats 2000000
namespace PF
open PySem PySem.Spec PyProof.Rows L2
open PySem.W (alike alikeAll dataLe dataLt AllAlike Sortable EachIs)

/-! ### a op b op c, of ints -/
def intM (f : M O) : M Int := f.bind fun o => match o with
  | .val (.int i) => M.pure i
  | _ => M.stuck
def chI (C C' : O → O → Option Bool) (fa fb fc : M O) : M Bool := (intM fa).bind fun x => (intM fb).bind fun y => (M.of (C (.val (.int x)) (.val (.int y)))).bind fun k => if k = true then (intM fc).bind fun z => M.of (C' (.val (.int y)) (.val (.int z))) else M.pure false
section
variable {W : WX} {X : Cx} {ca : Ca} {a b c : Expr} {fa fb fc : M O} {pos : Pos} {g : Gv}
theorem TR_int {α : Type} {f : M O} {k : Int → M α} {σ : L2.St} {H : Hp} {F Gx : Hp} {ρ : Sls} {R : α → Hp → Hp → Sls → Prop} (st : StG g H F Gx σ ρ []) (r : Rn g W ((intM f).bind k) σ H F Gx ρ R) :
    TR g W f σ H fun x H1 => ∃ i F1 ρ1, x = .int i ∧ StG g H1 F1 Gx σ ρ1 [] ∧ Rn g W (k i) σ H1 F1 Gx ρ1 R := by
  refine ⟨F, Gx, ρ, st, ?_⟩
  unfold intM at r
  rw [M.bind_assoc] at r
  refine r.bind.mono fun o H1 F1 ρ1 le r1 v S st1 rv => ?_
  split at r1
  · cases rv.intV
    exact ⟨_, F1, ρ1, rfl, st1, r1⟩
  · obtain ⟨_, _, e⟩ := r1.run; cases e
theorem rC_int {C : O → O → Option Bool} {x y : Int} {k : Bool} {H : Hp} {Q : VK} (e : C (.val (.int x)) (.val (.int y)) = some k) (q : Q (.bl k) H) : rC g C (.int x) (.int y) H Q :=
  ⟨fun _ => none, _, _, fun _ => False, fun _ => False, k, fun _ _ h => (nomatch h), by rw [RepO]; exact repI, by rw [RepO]; exact repI, e, q⟩
theorem chain_run {C C' : O → O → Option Bool} {σ : L2.St} {H : Hp} {Q : Bool → Hp → Prop} (h : Tt g W (chI C C' fa fb fc) σ H Q) : tTest (tChain (rC g C) (rC g C') (TR g W fa) (TR g W fb) (TR g W fc)) σ H Q := by
  obtain ⟨F, Gx, ρ, st, r⟩ := h
  have key : ∀ {t : TE} {R R' : VK}, (∀ σ H (R R' : VK), (∀ x H, R x H → R' x H) → t σ H R → t σ H R') → (∀ x H, R x H → R' x H) → t σ H R → t σ H R' := fun m i q => m σ H _ _ i q
  have mono : ∀ (f : M O) σ H (R R' : VK), (∀ x H, R x H → R' x H) → TR g W f σ H R → TR g W f σ H R' := fun f σ H R R' i ⟨F, Gx, ρ, st, r⟩ => ⟨F, Gx, ρ, st, r.mono fun o H' F' ρ' le q v S st' rv => i _ _ (q v S st' rv)⟩
  refine mono fa _ _ _ _ (fun x H1 ⟨i, F1, ρ1, ex, st1, r1⟩ => ?_) (TR_int st r)
  subst ex
  refine mono fb _ _ _ _ (fun y H2 ⟨j, F2, ρ2, ey, st2, r2⟩ => ?_) (TR_int st1 r1)
  subst ey
  obtain ⟨k, hk, r3⟩ := r2.bind.of
  refine rC_int hk ⟨k, rfl, ?_⟩
  have r4 := r3 H2 F2 (Le.refl _)
  cases k with
  | false => exact ⟨false, rfl, r4.pure H2 F2 (Le.refl _) st2⟩
  | true =>
    refine mono fc _ _ _ _ (fun z H3 ⟨l, F3, ρ3, ez, st3, r5⟩ => ?_) (TR_int st2 r4)
    subst ez
    obtain ⟨k2, hk2, r6⟩ := r5.of
    exact rC_int hk2 ⟨k2, rfl, r6 H3 F3 (Le.refl _) st3⟩
theorem t_chain {op op' : CmpOp} {C C' : O → O → Option Bool} (ho : OpR X (compareOp op) (rC (gv X ca) C)) (ho' : OpR X (compareOp op') (rC (gv X ca) C')) (ha : PE X a (TR (gv X ca) W fa)) (hb : PE X b (TR (gv X ca) W fb)) (hc : PE X c (TR (gv X ca) W fc))
    (hm : lastMarks [op, op'] [b, c] = false := by with_unfolding_all rfl) : PT X (.Compare a [op, op'] [b, c] pos) (Tt (gv X ca) W (chI C C' fa fb fc)) :=
  PT.imp (pt_chain ho ho' ha hb hc hm) fun σ H Q h => chain_run h
theorem e_chain {op op' : CmpOp} {C C' : O → O → Option Bool} (ho : OpR X (compareOp op) (rC (gv X ca) C)) (ho' : OpR X (compareOp op') (rC (gv X ca) C')) (ha : PE X a (TR (gv X ca) W fa)) (hb : PE X b (TR (gv X ca) W fb)) (hc : PE X c (TR (gv X ca) W fc))
    (hm : lastMarks [op, op'] [b, c] = false := by with_unfolding_all rfl) : PE X (.Compare a [op, op'] [b, c] pos) (T (gv X ca) W (blO (chI C C' fa fb fc))) :=
  PE.imp (pe_chain (r := fun x y H Q => rC (gv X ca) C x y H Q) (r' := fun x y H Q => rC (gv X ca) C' x y H fun z H' => ∃ k, z = .bl k ∧ Q (.bl k) H') ho
    (fun pins s σ H x y v u Q I rx ry h => ho' pins s σ H x y v u Q I rx ry (rC_mono h fun b ⟨k, e, q⟩ => by cases e; exact q)) ha hb hc hm) fun σ H Q h => by
    have mono : ∀ (f : M O) σ H (R R' : VK), (∀ x H, R x H → R' x H) → TR (gv X ca) W f σ H R → TR (gv X ca) W f σ H R' := fun f σ H R R' i ⟨F, Gx, ρ, st, r⟩ => ⟨F, Gx, ρ, st, r.mono fun o H' F' ρ' le q v S st' rv => i _ _ (q v S st' rv)⟩
    refine mono fa _ _ _ _ (fun x H1 q1 => mono fb _ _ _ _ (fun y H2 q2 => rC_mono q2 fun b ⟨k, e, q⟩ => ⟨k, e, ?_⟩) q1) (chain_run (T_bl h))
    cases k with
    | true => exact q
    | false => obtain ⟨k, e, q⟩ := q; cases e; exact q
end

/-! ### a, b = x, y -/
def par2 (i j : Nat) (fs : M (List O)) : M Out := fs.bind fun os => match os with
  | [a, b] => (putS i a).bind fun _ => (putS j b).bind fun _ => M.pure .nx
  | _ => M.stuck
def par3 (i j k : Nat) (fs : M (List O)) : M Out := fs.bind fun os => match os with
  | [a, b, c] => (putS i a).bind fun _ => (putS j b).bind fun _ => (putS k c).bind fun _ => M.pure .nx
  | _ => M.stuck
section
variable {W : WX} {pn : List Nat} {X : Cx} {ca : Ca} {a b c : Expr} {fs : M (List O)} {pos pt px py pz pt2 : Pos} {x y z : Str} {i j k kt k2 : Nat} {g : Gv}
theorem Ts_puts {i : Nat} {o : O} {k : M Out} {D : Ends} {σ : L2.St} {H F Gx : Hp} {ρ : Sls} {v : V} {L : List (V × O)} (hi : i ∉ pn) (st : StG g H F Gx σ ρ ((v, o) :: L)) (r : Rs g W pn ((putS i o).bind fun _ => k) σ F Gx ρ (EndR g Gx D)) :
    ∃ ρ1, StG g H F Gx (σ.set i (some v)) ρ1 L ∧ Rs g W pn k (σ.set i (some v)) F Gx ρ1 (EndR g Gx D) := by
  by_cases hl : i < ρ.length
  · have e : putS i o ρ = some (.ok (), ρ.set i (some o)) := by unfold putS; rw [if_pos hl]
    exact ⟨ρ.set i (some o), st.store hl, r.bind.ok e H F (σ.set i (some v)) (Le.refl F) (Pin.set hi)⟩
  · exfalso
    obtain ⟨_, _, e⟩ := r.run
    unfold M.bind putS at e
    rw [if_neg hl] at e
    cases e
theorem s_par2 (hc : X.calm = true) (hN : X.N.Nodup) (hi : X.N[i]? = some x) (hj : X.N[j]? = some y) (hij : i ≠ j) (hpi : i ∉ pn) (hpj : j ∉ pn)
    (hx : X.env.scope.names.lookup x = some .local) (hy : X.env.scope.names.lookup y = some .local) (ha : PA X [a, b] (TL g W fs))
    (hw : swappedStores [.Tuple [.Name x px, .Name y py] kt pt] (.Tuple [a, b] k2 pt2) X.env = pure (some [x, y]))
    (hs : swapsWithSole [.Tuple [.Name x px, .Name y py] kt pt] (.Tuple [a, b] k2 pt2) pos.line X.env = pure false := by rfl) :
    PS X (.Assign [.Tuple [.Name x px, .Name y py] kt pt] (.Tuple [a, b] k2 pt2) pos) (Ts g W pn (par2 i j fs)) :=
  PS.imp (ps_par hc hN hi hj hij hx hy ha hw hs) fun D σ H ⟨F, Gx, ρ, st, r⟩ => ⟨F, Gx, ρ, st, r.expr.mono fun os H' F' ρ' le r1 vs hl st' => by
    split at r1
    · obtain ⟨v, w, rfl⟩ : ∃ v w, vs = [v, w] := by
        match vs, hl with
        | [v, w], _ => exact ⟨v, w, rfl⟩
      refine ⟨v, w, rfl, ?_⟩
      obtain ⟨ρ1, st1, r2⟩ := Ts_puts hpi (show StG g H' F' Gx σ ρ' ((v, _) :: [(w, _)]) from st') r1
      obtain ⟨ρ2, st2, r3⟩ := Ts_puts hpj st1 r2
      exact r3.pure H' F' _ (Le.refl _) (Pin.refl _) st2
    · obtain ⟨_, _, e⟩ := r1.run; cases e⟩
theorem s_par3 (hc : X.calm = true) (hN : X.N.Nodup) (hi : X.N[i]? = some x) (hj : X.N[j]? = some y) (hk : X.N[k]? = some z) (hij : i ≠ j) (hik : i ≠ k) (hjk : j ≠ k) (hpi : i ∉ pn) (hpj : j ∉ pn) (hpk : k ∉ pn)
    (hx : X.env.scope.names.lookup x = some .local) (hy : X.env.scope.names.lookup y = some .local) (hz : X.env.scope.names.lookup z = some .local) (ha : PA X [a, b, c] (TL g W fs))
    (hw : swappedStores [.Tuple [.Name x px, .Name y py, .Name z pz] kt pt] (.Tuple [a, b, c] k2 pt2) X.env = pure (some [x, y, z]))
    (hs : swapsWithSole [.Tuple [.Name x px, .Name y py, .Name z pz] kt pt] (.Tuple [a, b, c] k2 pt2) pos.line X.env = pure false := by rfl) :
    PS X (.Assign [.Tuple [.Name x px, .Name y py, .Name z pz] kt pt] (.Tuple [a, b, c] k2 pt2) pos) (Ts g W pn (par3 i j k fs)) :=
  PS.imp (ps_par3 hc hN hi hj hk hij hik hjk hx hy hz ha hw hs) fun D σ H ⟨F, Gx, ρ, st, r⟩ => ⟨F, Gx, ρ, st, r.expr.mono fun os H' F' ρ' le r1 vs hl st' => by
    split at r1
    · obtain ⟨v, w, u, rfl⟩ : ∃ v w u, vs = [v, w, u] := by
        match vs, hl with
        | [v, w, u], _ => exact ⟨v, w, u, rfl⟩
      refine ⟨v, w, u, rfl, ?_⟩
      obtain ⟨ρ1, st1, r2⟩ := Ts_puts hpi (show StG g H' F' Gx σ ρ' ((v, _) :: [(w, _), (u, _)]) from st') r1
      obtain ⟨ρ2, st2, r3⟩ := Ts_puts hpj st1 r2
      obtain ⟨ρ3, st3, r4⟩ := Ts_puts hpk st2 r3
      exact r4.pure H' F' _ (Le.refl _) (Pin.refl _) st3
    · obtain ⟨_, _, e⟩ := r1.run; cases e⟩
end

/-! ### xs.append(e) -/
def pushO (o : O) : O → Option O
  | .lst os => if os.length ≤ lim then some (.lst (os ++ [o])) else none
  | _ => none
def appF (i : Nat) (fe : M O) : M O := (pk i).bind fun b => match b with
  | .lst _ => fe.bind fun o => (upM i (pushO o)).bind fun _ => M.pure (.val .non)
  | _ => M.stuck
theorem app_run {g : Gv} {σ : L2.St} {H F Gx : Hp} {ρ : Sls} {i : Nat} {o v : O} {o' : O} {x vv : V} (st : StG g H F Gx σ ρ [(vv, v)]) (hi : ρ[i]? = some (some o)) (hx : σ[i]? = some (some x)) (e : pushO v o = some o') :
    ∃ l xs, x = .ref l ∧ H l = some (.lst xs) ∧ xs.length < sizeLine ∧ StG g (upd H l (.lst (xs ++ [vv]))) F Gx σ (ρ.set i (some o')) [] := by
  unfold pushO at e
  split at e
  · rename_i os
    split at e
    · rename_i hz
      cases e
      obtain ⟨x', S, hx', rx⟩ := st.peek hi
      rw [hx] at hx'; cases hx'
      rw [RepO] at rx
      obtain ⟨a, vs, rfl, _⟩ := rx
      obtain ⟨S1, SA, r1, rA, d, w⟩ := StG.wr (A := [(vv, v)]) (L := []) st hi hx
      rw [RepO] at r1
      obtain ⟨a', vs, e', sa', hH, rs⟩ := r1
      cases e'
      refine ⟨a, vs, rfl, hH, by rw [rs.length]; exact lim_lt hz, w _ _ sa' ?_⟩
      rw [RepO]
      exact ⟨a, _, rfl, .inl sa', upd_same, RepOs.wrote (RepOs.snoc rs rA.one fun b h1 h2 => d b h1.1 h2) sa' d⟩
    · cases e
  · cases e
section
variable {W : WX} {X : Cx} {ca : Ca} {a e : Expr} {fe : M O} {apos cpos : Pos}
theorem e_append (i : Nat) (ha : PE X a (tVar i)) (he : PE X e (T (gv X ca) W fe))
    (hbase : attributeBase a "append" X.env (eval a X.env) = eval a X.env := by rfl)
    (hfew : ((backTo cpos (starEach [e] X.env)).all (fun x => !x.1) && (backToKw cpos (keywordEach [] X.env)).all (fun x => x.1.isSome)
      && decide (([e] : List Expr).length + ([] : List Keyword).length + (if ([] : List Keyword).isEmpty then 0 else 1) < 30)) = true := by rfl)
    (hline : (apos.endLine == cpos.line) = true := by rfl) (hs : starEach [e] X.env = (false, eval e X.env) :: starEach [] X.env := by rfl) (hplain : (backTo cpos (starEach [] X.env)).any (·.1) = false := by rfl) :
    PE X (.Call (.Attribute a "append" apos) [e] [] cpos) (T (gv X ca) W (appF i fe)) :=
  PE.imp (pe_bm PySem.F.plainAttrs_list PySem.F.slot_list_append PySem.F.type_list_append mt_append ha (pa_cons he pa_nil hs) hbase hfew hline hs hplain) fun σ H Q ⟨F, Gx, ρ, st, r⟩ => by
    obtain ⟨o0, h0, r⟩ := r.pk
    obtain ⟨x, S, hx, rx⟩ := st.peek h0
    split at r
    · rename_i os
      rw [RepO] at rx
      obtain ⟨l, vs, rfl, sa, hH, rs⟩ := rx
      refine ⟨_, hx, .inl ⟨rfl, vs, SqL.of hH⟩, F, Gx, ρ, st, r.bind.mono fun v H1 F1 ρ1 le1 r1 vv st1 => ?_⟩
      obtain ⟨o1, o2, h1, h2, r2⟩ := r1.up
      obtain ⟨l', xs, e1, hH1, hz, st2⟩ := app_run st1 h1 hx h2
      cases e1
      exact ⟨l, xs, vv, rfl, rfl, hH1, hz, (r2 (upd H1 l (.lst (xs ++ [vv])))).pure _ F1 (Le.refl _) .non (st2.ofVal repN)⟩
    · obtain ⟨_, _, e⟩ := r.run; cases e
end

/-! ### sep.join(texts) -/
def strsD : List D → Option (List Str)
  | [] => some []
  | .str x :: ds => (strsD ds).map (x :: ·)
  | _ :: _ => none
def joinG (a : Str) (o : O) : Option O := match o.dsT.or o.dsL with
  | some ds => (match strsD ds with
    | some ys => if (ys.map (·.length)).sum + ys.length * a.length ≤ lim then some (.val (.str (Txt.join a ys))) else none
    | none => none)
  | none => none
def strM (f : M O) : M Str := f.bind fun o => match o with
  | .val (.str a) => M.pure a
  | _ => M.stuck
def sm1 (G : Str → O → Option O) (fa fb : M O) : M O := (strM fa).bind fun a => fb.bind fun o => M.of (G a o)
def rS1 (g : Gv) (G : Str → O → Option O) : V → List V → Hp → VK → Prop := fun x xs H Q => ∃ F Gx σ ρ a o S y res, x = .str a ∧ xs = [y] ∧ StG g H F Gx σ ρ [] ∧ RepO g H F o y S ∧ G a o = some res ∧ Yd g H F Gx σ ρ res Q
theorem strsD_ok {g : Gv} {F : Hp} : ∀ {ds : List D} {vs : List V} {ys : List Str}, RepVs g F ds vs → strsD ds = some ys → vs = ys.map V.str
  | [], vs, ys, r, h => by rw [RepVs] at r; subst r; cases h; rfl
  | .str x :: ds, vs, ys, r, h => by
    rw [strsD] at h
    obtain ⟨zs, h1, rfl⟩ := Option.map_eq_some_iff.mp h
    rw [RepVs] at r
    obtain ⟨v, w, rfl, r1, r2⟩ := r
    rw [RepV] at r1; subst r1
    rw [strsD_ok r2 h1]; rfl
  | .non :: _, vs, ys, r, h => by cases h
  | .bl _ :: _, vs, ys, r, h => by cases h
  | .int _ :: _, vs, ys, r, h => by cases h
  | .tup _ :: _, vs, ys, r, h => by cases h
  | .lst _ :: _, vs, ys, r, h => by cases h
  | .dct _ _ _ :: _, vs, ys, r, h => by cases h
  | .ins _ _ _ :: _, vs, ys, r, h => by cases h
  | .scr _ :: _, vs, ys, r, h => by cases h
  | .ty _ :: _, vs, ys, r, h => by cases h
  | .exn _ _ _ :: _, vs, ys, r, h => by cases h
section
variable {W : WX} {X : Cx} {ca : Ca} {a e : Expr} {fa fb : M O} {apos pos : Pos} {g : Gv}
theorem TR_str {α : Type} {f : M O} {k : Str → M α} {σ : L2.St} {H : Hp} {F Gx : Hp} {ρ : Sls} {R : α → Hp → Hp → Sls → Prop} (st : StG g H F Gx σ ρ []) (r : Rn g W ((strM f).bind k) σ H F Gx ρ R) :
    TR g W f σ H fun x H1 => ∃ i F1 ρ1, x = .str i ∧ StG g H1 F1 Gx σ ρ1 [] ∧ Rn g W (k i) σ H1 F1 Gx ρ1 R := by
  refine ⟨F, Gx, ρ, st, ?_⟩
  unfold strM at r
  rw [M.bind_assoc] at r
  refine r.bind.mono fun o H1 F1 ρ1 le r1 v S st1 rv => ?_
  split at r1
  · cases rv.strV
    exact ⟨_, F1, ρ1, rfl, st1, r1⟩
  · obtain ⟨_, _, e⟩ := r1.run; cases e
theorem TR_mono {f : M O} {σ : L2.St} {H : Hp} {R R' : VK} (h : TR g W f σ H R) (i : ∀ x H, R x H → R' x H) : TR g W f σ H R' :=
  let ⟨F, Gx, ρ, st, r⟩ := h
  ⟨F, Gx, ρ, st, r.mono fun o H' F' ρ' le q v S st' rv => i _ _ (q v S st' rv)⟩
/-- a text's method, one argument -/
theorem e_sm1 {id : String} {name : Str} {G : Str → O → Option O} (slot : Slot "str" name id) (ty : typeOf (.builtin id) = pure (.type "method_descriptor")) (rule : MtR X id (rS1 (gv X ca) G)) (ha : PE X a (TR (gv X ca) W fa)) (hb : PE X e (TR (gv X ca) W fb))
    (hs : starEach [e] X.env = [(false, eval e X.env)] := by rfl) (hbase : attributeBase a name X.env (eval a X.env) = eval a X.env := by rfl) (hline : (apos.endLine == pos.line) = true := by rfl) :
    PE X (.Call (.Attribute a name apos) [e] [] pos) (T (gv X ca) W (sm1 G fa fb)) :=
  PE.imp (pe_m1 slot ty rule ha hb hs hbase hline) fun σ H Q ⟨F, Gx, ρ, st, r⟩ => by
    refine TR_mono (TR_str st r) fun x H1 ⟨z, F1, ρ1, ex, st1, r1⟩ => ?_
    subst ex
    refine ⟨⟨z, rfl⟩, F1, Gx, ρ1, st1, r1.bind.mono fun o H2 F2 ρ2 le r2 y S st2 ry => ?_⟩
    obtain ⟨res, e, q⟩ := r2.of
    exact ⟨F2, Gx, σ, ρ2, z, o, S, y, res, rfl, rfl, st2, ry, e, fun v H3 F3 le3 st3 => q H3 F3 le3 v st3⟩
theorem sr_join : MtR X "str.join" (rS1 (gv X ca) joinG) := by
  intro pins s σ H x xs v us Q I rx rs ⟨F, Gx, σ', ρ, a, o, S, y, res, e1, e2, st, ry, e, yd⟩
  subst e1 e2
  unfold joinG at e
  split at e
  · rename_i ds hd
    split at e
    · rename_i ys hy
      split at e
      · rename_i hz
        cases e
        have hz2 : (ys.map (·.length)).sum + ys.length * a.length ≤ 16777216 := by unfold lim at hz; omega
        rcases Option.or_eq_some_iff.mp hd with hd | ⟨_, hd⟩
        · obtain ⟨p, vs, rfl, q, rr⟩ := dsT_ok st.le ry hd
          rw [strsD_ok rr hy] at q
          exact mt_join pins s σ H _ _ v us Q I rx rs ⟨a, p, ys, rfl, rfl, .inr q, hz2, yd.val st repS⟩
        · obtain ⟨p, vs, rfl, q, rr⟩ := dsL_ok st.le ry hd
          rw [strsD_ok rr hy] at q
          exact mt_join pins s σ H _ _ v us Q I rx rs ⟨a, p, ys, rfl, rfl, .inl (SqL.of q), hz2, yd.val st repS⟩
      · cases e
    · cases e
  · cases e
theorem e_join (ha : PE X a (TR (gv X ca) W fa)) (hb : PE X e (TR (gv X ca) W fb)) (hs : starEach [e] X.env = [(false, eval e X.env)] := by rfl) (hbase : attributeBase a "join" X.env (eval a X.env) = eval a X.env := by rfl) (hline : (apos.endLine == pos.line) = true := by rfl) :
    PE X (.Call (.Attribute a "join" apos) [e] [] pos) (T (gv X ca) W (sm1 joinG fa fb)) :=
  e_sm1 F.slot_str_join F.type_str_join sr_join ha hb hs hbase hline
end

/-! ### min of data -/
def minDD (x : D) (xs : List D) : D := xs.foldl (fun a y => if dataLt (toPy y) (toPy a) = true then y else a) x
theorem minDD_py : ∀ (xs : List D) (x : D), toPy (minDD x xs) = PySem.W.minD (toPy x) (xs.map toPy)
  | [], x => rfl
  | y :: xs, x => by
    have ih := minDD_py xs (if dataLt (toPy y) (toPy x) = true then y else x)
    unfold minDD PySem.W.minD at ih ⊢
    rw [List.map_cons, List.foldl_cons, List.foldl_cons, ih]
    congr 1
    split <;> rfl
theorem minDD_mem : ∀ (xs : List D) (x : D), minDD x xs = x ∨ minDD x xs ∈ xs
  | [], x => .inl rfl
  | y :: xs, x => by
    have ih := minDD_mem xs (if dataLt (toPy y) (toPy x) = true then y else x)
    unfold minDD at ih ⊢
    rw [List.foldl_cons]
    rcases ih with ih | ih
    · rw [ih]
      split
      · exact .inr (by simp)
      · exact .inl rfl
    · exact .inr (by simp [ih])
def minOk (ds : List D) : Bool := ds.all (okD 16) && ds.all (fun x => ds.all fun y => alike (toPy x) (toPy y)) && ds.all (fun x => match x with | .non => false | _ => true)
def minF : List O → Option O
  | [o] => match o.dsT.or o.dsL with
    | some (d :: ds) => if minOk (d :: ds) = true then some (.val (minDD d ds)) else none
    | _ => none
  | _ => none
section
variable {X : Cx} {ca : Ca}
theorem minOk_is {ds : List D} (h : minOk ds = true) : (∀ d ∈ ds, okD 16 d = true) ∧ PySem.W.AlikeAll (ds.map toPy) := by
  unfold minOk at h
  rw [Bool.and_eq_true, Bool.and_eq_true, List.all_eq_true, List.all_eq_true, List.all_eq_true] at h
  obtain ⟨⟨h1, h2⟩, h3⟩ := h
  refine ⟨h1, fun a ha b hb => ?_, fun a ha => ?_⟩
  · obtain ⟨x, hx, rfl⟩ := List.mem_map.mp ha
    obtain ⟨y, hy, rfl⟩ := List.mem_map.mp hb
    exact List.all_eq_true.mp (h2 x hx) y hy
  · obtain ⟨x, hx, rfl⟩ := List.mem_map.mp ha
    have o := h1 x hx
    have n := h3 x hx
    cases x <;> first
      | (simp [toPy]; done)
      | (cases n; done)
      | (simp [okD] at o; done)
theorem RepVs.item {g : Gv} {F : Hp} {i : Nat} {v : Value} : ∀ {ds : List D} {vs : List V} {us : List Value}, RepVs g F ds vs → Vals vs us → us[i]? = some v → ∃ d w, ds[i]? = some d ∧ RelV w v ∧ RepV g F d w := by
  intro ds vs us r q e
  have hl := r.length
  have hi : i < us.length := (List.getElem?_eq_some_iff.mp e).1
  rw [← q.length, hl] at hi
  obtain ⟨w, hw, rw'⟩ := r.get (i := i) (d := ds[i]) (by simp [hi])
  obtain ⟨u, hu, ru⟩ := q.get hw
  rw [e] at hu; cases hu
  exact ⟨ds[i], w, by simp [hi], ru, rw'⟩
theorem cb_min (hc : X.calm = true) (hu : X.A.units + 65 < cLine) : CallR X (.builtin "min") (rF (gv X ca) minF) := by
  intro pins s σ H xs us Q I rv ⟨F, Gx, σ', ρ, os, res, st, vw, e, yd⟩
  unfold minF at e
  split at e
  · rename_i o
    obtain ⟨v, S, rfl, r⟩ := view1 vw
    obtain ⟨u, rfl, ru⟩ := vals1 rv
    split at e
    · rename_i d ds hd
      split at e
      · rename_i hm
        cases e
        obtain ⟨ok, al⟩ := minOk_is hm
        have dep : PyData.depthAll ((d :: ds).map toPy) ≤ 16 := by rw [← toPys_map]; exact (okDs_lay 16 _ ok).2
        have fin : ∀ {vs : List V} {its : List Value}, RepVs (gv X ca) F (d :: ds) vs → Vals vs its → ∀ (i : Nat) (v : Value) (h' : Heap) (tk : Nat) (bs : List Addr), its.toArray[i]? = some v → Reads h' v (PySem.W.minD (toPy d) (ds.map toPy)) bs → (∀ b o, s.heap.get? b = some o → h'.get? b = some o) → EP X pins σ Q v { s with heap := h', toks := tk } := by
          intro vs its rr vl i v h' tk bs e1 e2 kp
          have I1 : Inv X pins σ H { s with heap := h', toks := tk } := I.kept kp
          obtain ⟨dd, w, e3, rw', rd⟩ := RepVs.item rr vl (by simpa using e1)
          have hmem : dd ∈ d :: ds := List.mem_of_getElem? e3
          obtain ⟨as, rd2⟩ := Dp.reads I1 _ w v (dp_of 16 dd w st.le (ok dd hmem) rd) rw'
          have hmin : minDD d ds ∈ d :: ds := by
            rcases minDD_mem ds d with h | h
            · rw [h]; simp
            · simp [h]
          have q := PySem.W.alike_unique (toPy dd) (PySem.W.minD (toPy d) (ds.map toPy)) v as bs (by rw [← minDD_py]; exact al.1 _ (List.mem_map_of_mem hmem) _ (List.mem_map_of_mem hmin)) rd2 e2
          rw [← minDD_py] at q
          have q2 := toPy_inj 16 16 dd (minDD d ds) (ok dd hmem) (ok _ hmin) q
          subst q2
          exact ⟨w, H, I1, rw', yd.val st rd⟩
        rcases Option.or_eq_some_iff.mp hd with hd | ⟨_, hd⟩
        · obtain ⟨p, vs, rfl, q, rr⟩ := dsT_ok st.le r hd
          cases ru
          obtain ⟨its, vl, pl, hz⟩ := I.tuple q
          obtain ⟨as, rda⟩ := Dp.readsAll I _ vs its (dps_of 16 (d :: ds) vs st.le ok rr) vl
          rw [toPys_map] at rda
          exact PySem.W.min_tuple_data (I.ok.hd hc) pl (by simpa using rda) al (by have := dep; rw [List.map_cons] at this; omega) (fin rr vl)
        · obtain ⟨p, vs, rfl, q, rr⟩ := dsL_ok st.le r hd
          cases ru
          obtain ⟨its, vl, pl, hz⟩ := I.list (SqL.of q)
          obtain ⟨as, rda⟩ := Dp.readsAll I _ vs its (dps_of 16 (d :: ds) vs st.le ok rr) vl
          rw [toPys_map] at rda
          exact PySem.W.min_list_data (I.ok.hd hc) pl.isList (by simpa using rda) al (by have := dep; rw [List.map_cons] at this; omega) (fin rr vl)
      · cases e
    · cases e
  · cases e
end
end PF

set_option Elab.async false
set_option linter.all false
set_option maxRecDepth 100000
set_option maxHeartbeats 2000000
namespace PF
open PySem PySem.Spec PyProof.Rows L2

/-! ### enumerate -/
section
open Sem (wp)
set_option maxHeartbeats 4000000 in
theorem enum_make {w0 : Value} {cell : Obj} {There : Heap → Prop} (Bg : Begins w0 cell There) :
    Meets (Builtin.«enumerate.__new__» ⟨[.type "enumerate", w0], []⟩)
      (fun _ R s => There s.heap ∧ R (.ok (.ret (.ref (s.heap.push cell).objs.size)))
        { s with heap := Heap.push (s.heap.push cell) { cls := .type "enumerate", data := .fields #[.none, .bool false, .ref s.heap.objs.size, rawInt 0, .none, .none] } }) :=
  .of_wp fun P0 W0 A0 R0 st0 hyp => by
    obtain ⟨hp, gn, dr, tk, oo⟩ := st0
    obtain ⟨there, hyp⟩ := hyp
    have hsub := sub_enumerate
    have hit : ∀ {A' : Around} {E' : Value → Shared → Prop} {Q' : Value → Shared → Prop}, Q' (.ref hp.objs.size) ⟨hp.push cell, gn, dr, tk, oo⟩ →
        wpAny (model P0 W0) A' (pyIter w0) Q' E' ⟨hp, gn, dr, tk, oo⟩ := fun z => Bg.iter P0 W0 _ _ ⟨hp, gn, dr, tk, oo⟩ _ there z
    wp_walk using hit
    refine wpAny_stack_any fun stk => wpAny_pure ?_
    split
    · rename_i cc _ _ _ _ _
      cases (cc == Value.type "enumerate") <;> (wp_walk using hit; exact ⟨_, rfl, hyp⟩)
    · (wp_walk using hit; exact ⟨_, rfl, hyp⟩)
theorem enum_call {prog : Program} {w : World} {A : Around} {E : Value → Shared → Prop} {s : Shared} {v : Value} {cell : Obj} {There : Heap → Prop} {Q : Value → Shared → Prop} (Bg : Begins v cell There) (th : There s.heap)
    (q : ∀ h', IsEnum h' (s.heap.objs.size + 1) s.heap.objs.size 0 .none → h'.get? s.heap.objs.size = some cell → (∀ b o, s.heap.get? b = some o → h'.get? b = some o) → Q (.ref (s.heap.objs.size + 1)) { s with heap := h' }) :
    wpAny (model prog w) A (call (.type "enumerate") [v]) Q E s := by
  refine callType_new F.called_enumerate (by decide) (F.typeCall_enumerate_1 _) (F.newCall_enumerate_1 _) (fun ob => F.args_object_init_2 ob _) F.entry_enumerate_new (enum_make Bg) ⟨th, ?_⟩
  have sz : (s.heap.push cell).objs.size = s.heap.objs.size + 1 := Heap.size_push ..
  have en : IsEnum (Heap.push (s.heap.push cell) { cls := .type "enumerate", data := .fields #[.none, .bool false, .ref s.heap.objs.size, rawInt 0, .none, .none] }) (s.heap.objs.size + 1) s.heap.objs.size 0 .none := by
    have z := Heap.get?_push_size (s.heap.push cell) (o := { cls := .type "enumerate", data := .fields #[.none, .bool false, .ref s.heap.objs.size, rawInt 0, .none, .none] }) rfl
    rw [sz] at z
    exact z
  show _ ∧ _
  rw [sz]
  exact ⟨⟨_, en, rfl⟩, q _ en (Heap.get?_push_of_some _ (Heap.get?_push_size _ Bg.free)) fun b o z => Heap.get?_push_of_some _ (Heap.get?_push_of_some _ z)⟩
end
/-- the turns over a tuple's, a text's items with their numbers -/
def IteT (K : PySem.W.Frag) (a : Addr) (xs : List V) : It :=
  ⟨fun i H => SqT K H a xs ∧ i < xs.length, fun i H v H' => ∃ T x, v = .ref T ∧ H T = none ∧ H' = upd H T (.tup [.int (i : Nat), x]) ∧ xs[i]? = some x, fun i H => SqT K H a xs ∧ xs.length ≤ i⟩
def IteS (z : Str) : It :=
  ⟨fun i _ => i < z.cps.size, fun i H v H' => ∃ T c, v = .ref T ∧ H T = none ∧ H' = upd H T (.tup [.int (i : Nat), .str ⟨#[c]⟩]) ∧ z.cps[i]? = some c, fun i _ => z.cps.size ≤ i⟩
theorem turn_enumT {P : Program} {w : World} {K : PySem.W.Frag} {elts : List Expr} {kk : Nat} {tpos : Pos} (a e it : Addr) (xs : List V) :
    Turn P w K (.Tuple elts kk tpos) (IteT K a xs) [e, it] e (fun i h => (∃ old, IsEnum h e it (0 + (i : Int)) old) ∧ h.IsTupleIter it a i ∧ e ≠ it ∧ e ≠ a ∧ a ≠ it ∧ i ≤ xs.length) where
  mem := by simp
  obj := fun i h st b hb => by
    obtain ⟨⟨old, he⟩, ⟨o, ho, hc, hd⟩, _⟩ := st
    rcases List.mem_cons.mp hb with rfl | hb
    · exact ⟨_, he, fun v q => nomatch q⟩
    · rw [List.mem_singleton.mp hb]; exact ⟨o, ho, fun v q => by rw [hd] at q; cases q⟩
  keep := fun i h h' ⟨⟨old, he⟩, hi, r⟩ k => ⟨⟨old, k e (by simp) _ he⟩, hi.at fun o q => k it (by simp) o q, r⟩
  item := by
    intro X hP hw hK hc i pins s σ H E I hf st hg
    subst hP hw hK
    obtain ⟨he, hit, hne, hea, hai, hle⟩ := st
    obtain ⟨hq, hi⟩ := hg
    obtain ⟨its, rv, p, hz⟩ := I.tuple hq
    have hn : its.toArray.size = xs.length := by rw [List.size_toArray, rv.length]
    have D := Draws.tuple (prog := X.prog) (w := X.w) (A := X.A.in1) (I.ok.hd hc) it a hai its.toArray
    have G := GoesN.enumFrom (elts := elts) (x1 := kk) (pos := tpos) 0 D e hne (by simp [hne, hea]) (by simp)
    refine G.goes i s (fun v s2 => ∃ x H', Inv X pins σ H' s2 ∧ RelV x v ∧ (IteT X.K a xs).yld i H x H' ∧ ((∃ old, IsEnum s2.heap e it (0 + ((i + 1 : Nat) : Int)) old) ∧ s2.heap.IsTupleIter it a (i + 1) ∧ e ≠ it ∧ e ≠ a ∧ a ≠ it ∧ i + 1 ≤ xs.length) ∧ ∀ b ∈ [e, it], H' b = none) E (by omega) ⟨he, hit, p⟩ fun v h' tk hY hst hk htk => ?_
    obtain ⟨T, t, u, ev, hT, hu, hTup⟩ := hY
    subst ev
    obtain ⟨y, hy, ry⟩ : ∃ y, xs[i]? = some y ∧ RelV y u := by
      obtain ⟨u', h1, h2⟩ := rv.get (i := i) (x := xs[i]) (by simp [hi])
      have h3 : its[i]? = some u := by simpa using hu
      rw [h1] at h3; cases h3
      exact ⟨xs[i], by simp [hi], h2⟩
    have hel : e < s.heap.objs.size := by obtain ⟨_, q⟩ := he; exact Heap.lt_size q
    have hil : it < s.heap.objs.size := by obtain ⟨_, q, _⟩ := hit; exact Heap.lt_size q
    have new : ObjOk X.prog X.w (upd H T (.tup [.int (i : Nat), y])) h' T (.tup [.int (i : Nat), y]) := by
      have e0 : (0 : Int) + (i : Int) = ((i : Nat) : Int) := by omega
      rw [e0] at hTup
      exact ⟨by show 2 ≤ sizeLine; decide, [.int i t, u], .cons ⟨_, rfl⟩ (.cons ry .nil), hTup⟩
    have I1 : Inv X pins σ (upd H T (.tup [.int (i : Nat), y])) { s with heap := h', toks := tk } := I.turnedNew (ch := [e, it]) hk hf hT new
    refine ⟨.ref T, _, I1, rfl, ⟨T, y, rfl, I.hok.fresh hT, rfl, hy⟩, ⟨hst.1, hst.2.1, hne, hea, hai, hi⟩, fun b hb => ?_⟩
    have hb' : b < s.heap.objs.size := by
      rcases List.mem_cons.mp hb with rfl | hb
      · exact hel
      · rw [List.mem_singleton.mp hb]; exact hil
    rw [upd_ne (Nat.ne_of_lt (Nat.lt_of_lt_of_le hb' hT))]
    exact (hf b hb).1
  done := by
    intro X hP hw hK hc i pins s σ H E I hf st hg
    subst hP hw hK
    obtain ⟨he, hit, hne, hea, hai, hle⟩ := st
    obtain ⟨hq, hi⟩ := hg
    obtain ⟨its, rv, p, hz⟩ := I.tuple hq
    have hn : its.toArray.size = xs.length := by rw [List.size_toArray, rv.length]
    have D := Draws.tuple (prog := X.prog) (w := X.w) (A := X.A.in1) (I.ok.hd hc) it a hai its.toArray
    have G := GoesN.enumFrom (elts := elts) (x1 := kk) (pos := tpos) 0 D e hne (by simp [hne, hea]) (by simp)
    have ei : i = its.toArray.size := by omega
    refine G.stops s (fun s1 => Inv X pins σ H s1) E (by rw [← ei]; exact ⟨he, hit, p⟩) fun h' tk hk htk => ?_
    have I1 := I.turnedL (ch := [e, it]) (h' := h') (t' := tk) hk hf
    exact I1
  self := fun A i s Q E st h => let ⟨⟨_, he⟩, _⟩ := st; wpAny_pyIter_enum he h
theorem turn_enumS {P : Program} {w : World} {K : PySem.W.Frag} {elts : List Expr} {kk : Nat} {tpos : Pos} (z : Str) (tz : Tok) (e it : Addr) :
    Turn P w K (.Tuple elts kk tpos) (IteS z) [e, it] e (fun i h => (∃ old, IsEnum h e it (0 + (i : Int)) old) ∧ h.IsStrIter it (strIterType z) z tz i ∧ e ≠ it ∧ i ≤ z.cps.size) where
  mem := by simp
  obj := fun i h st b hb => by
    obtain ⟨⟨old, he⟩, ⟨o, ho, hc, hd⟩, _⟩ := st
    rcases List.mem_cons.mp hb with rfl | hb
    · exact ⟨_, he, fun v q => nomatch q⟩
    · rw [List.mem_singleton.mp hb]; exact ⟨o, ho, fun v q => by rw [hd] at q; cases q⟩
  keep := fun i h h' ⟨⟨old, he⟩, ⟨o, ho, hc, hd⟩, r⟩ k => ⟨⟨old, k e (by simp) _ he⟩, ⟨o, k it (by simp) o ho, hc, hd⟩, r⟩
  item := by
    intro X hP hw hK hc i pins s σ H E I hf st hg
    subst hP hw hK
    obtain ⟨he, hit, hne, hle⟩ := st
    have hg : i < z.cps.size := hg
    have D := Draws.text (prog := X.prog) (w := X.w) (A := X.A.in1) (I.ok.hd hc) it z tz
    have G := GoesN.enumFrom (elts := elts) (x1 := kk) (pos := tpos) 0 D e hne (by simp [hne]) (by simp)
    refine G.goes i s (fun v s2 => ∃ x H', Inv X pins σ H' s2 ∧ RelV x v ∧ (IteS z).yld i H x H' ∧ ((∃ old, IsEnum s2.heap e it (0 + ((i + 1 : Nat) : Int)) old) ∧ s2.heap.IsStrIter it (strIterType z) z tz (i + 1) ∧ e ≠ it ∧ i + 1 ≤ z.cps.size) ∧ ∀ b ∈ [e, it], H' b = none) E hg ⟨he, hit⟩ fun v h' tk hY hst hk htk => ?_
    obtain ⟨T, t, u, ev, hT, ⟨c, u2, hu, eu⟩, hTup⟩ := hY
    subst ev eu
    have hel : e < s.heap.objs.size := by obtain ⟨_, q⟩ := he; exact Heap.lt_size q
    have hil : it < s.heap.objs.size := by obtain ⟨_, q, _⟩ := hit; exact Heap.lt_size q
    have new : ObjOk X.prog X.w (upd H T (.tup [.int (i : Nat), .str ⟨#[c]⟩])) h' T (.tup [.int (i : Nat), .str ⟨#[c]⟩]) := by
      have e0 : (0 : Int) + (i : Int) = ((i : Nat) : Int) := by omega
      rw [e0] at hTup
      exact ⟨by show 2 ≤ sizeLine; decide, [.int i t, .str ⟨#[c]⟩ u2], .cons ⟨_, rfl⟩ (.cons ⟨_, rfl⟩ .nil), hTup⟩
    have I1 : Inv X pins σ (upd H T (.tup [.int (i : Nat), .str ⟨#[c]⟩])) { s with heap := h', toks := tk } := I.turnedNew (ch := [e, it]) hk hf hT new
    refine ⟨.ref T, _, I1, rfl, ⟨T, c, rfl, I.hok.fresh hT, rfl, hu⟩, ⟨hst.1, hst.2, hne, hg⟩, fun b hb => ?_⟩
    have hb' : b < s.heap.objs.size := by
      rcases List.mem_cons.mp hb with rfl | hb
      · exact hel
      · rw [List.mem_singleton.mp hb]; exact hil
    rw [upd_ne (Nat.ne_of_lt (Nat.lt_of_lt_of_le hb' hT))]
    exact (hf b hb).1
  done := by
    intro X hP hw hK hc i pins s σ H E I hf st hg
    subst hP hw hK
    obtain ⟨he, hit, hne, hle⟩ := st
    have hg : z.cps.size ≤ i := hg
    have D := Draws.text (prog := X.prog) (w := X.w) (A := X.A.in1) (I.ok.hd hc) it z tz
    have G := GoesN.enumFrom (elts := elts) (x1 := kk) (pos := tpos) 0 D e hne (by simp [hne]) (by simp)
    have ei : i = z.cps.size := by omega
    refine G.stops s (fun s1 => Inv X pins σ H s1) E (by rw [← ei]; exact ⟨he, hit⟩) fun h' tk hk htk => ?_
    exact I.turnedL (ch := [e, it]) (h' := h') (t' := tk) hk hf
  self := fun A i s Q E st h => let ⟨⟨_, he⟩, _⟩ := st; wpAny_pyIter_enum he h
def iEn (K : PySem.W.Frag) (te : TE) : L2.TI := fun σ H R => te σ H fun x H1 => (∃ a xs, x = .ref a ∧ SqL K H1 a xs ∧ R (Ite K a) H1) ∨ (∃ a xs, x = .ref a ∧ SqT K H1 a xs ∧ R (IteT K a xs) H1) ∨ ∃ z, x = .str z ∧ R (IteS z) H1
section
variable {X : Cx} {e : Expr} {te : TE} {p pos tpos : Pos} {elts : List Expr} {kk : Nat}
theorem pi_enumA (hg : Gl X "enumerate") (hm : X.mg "enumerate" = none) (he : PE X e te) (hs : starEach [e] X.env = (false, eval e X.env) :: starEach [] X.env := by rfl) :
    PI X (.Tuple elts kk tpos) (.Call (.Name "enumerate" p) [e] [] pos) (iEn X.K te) := by
  refine ⟨fun pins s σ H R I h => ?_⟩
  refine Call_ (ld_blt I hg hm boot_enumerate (PyProof.Rows.callWith_type1 (thn ((pa_cons he pa_nil hs).run pos pins s σ H (fun vs H' => match vs with | [x] => ((∃ a xs, x = .ref a ∧ SqL X.K H' a xs ∧ R (Ite X.K a) H') ∨ (∃ a xs, x = .ref a ∧ SqT X.K H' a xs ∧ R (IteT X.K a xs) H') ∨ ∃ z, x = .str z ∧ R (IteS z) H') | _ => False) I h) fun us s1 ⟨vs, H1, I1, r1, q⟩ => ?_) hs rfl))
  match vs, q with
  | [x], q =>
    obtain ⟨u, rfl, ru⟩ := vals1 r1
    have fin : ∀ {h' : Heap} {tn : Nat → Heap → Prop} {J : It}, (∀ b o, s1.heap.get? b = some o → h'.get? b = some o) → Turn X.prog X.w X.K (.Tuple elts kk tpos) J [s1.heap.objs.size + 1, s1.heap.objs.size] (s1.heap.objs.size + 1) tn → tn 0 h' → R J H1 → PIE X pins σ (.Tuple elts kk tpos) R (.ref (s1.heap.objs.size + 1)) { s1 with heap := h' } := by
      intro h' tn J hk T st q
      refine ⟨s1.heap.objs.size + 1, _, tn, J, H1, rfl, I1.kept (t' := s1.toks) hk, T, st, fun b hb => ?_, q⟩
      have hle : s1.heap.objs.size ≤ b := by
        rcases List.mem_cons.mp hb with rfl | hb
        · exact Nat.le_add_right _ _
        · rw [List.mem_singleton.mp hb]; exact Nat.le_refl _
      exact I1.fpOk hle (I1.hok.fresh hle)
    rcases q with ⟨a, xs, rfl, hq, q⟩ | ⟨a, xs, rfl, hq, q⟩ | ⟨z, rfl, q⟩
    · cases ru
      obtain ⟨its, rv, p', hz⟩ := I1.list hq
      exact call_enumerate_list p'.isList fun h' he hit hsz hk => wpAny_pyIter_enum he (fin hk (turn_enum a _ _) ⟨⟨.none, he⟩, hit, Nat.succ_ne_self _⟩ q)
    · cases ru
      obtain ⟨its, rv, p', hz⟩ := I1.tuple hq
      have ha : a < s1.heap.objs.size := by obtain ⟨o, ho, _⟩ := p'; exact Heap.lt_size ho
      exact enum_call (begins_tuple a its.toArray) p' fun h' he hit hk => wpAny_pyIter_enum he (fin hk (turn_enumT a _ _ xs) ⟨⟨.none, he⟩, ⟨_, hit, rfl, rfl⟩, Nat.succ_ne_self _, Nat.ne_of_gt (Nat.lt_succ_of_lt ha), Nat.ne_of_lt ha, Nat.zero_le _⟩ q)
    · obtain ⟨t, rfl⟩ := ru
      exact enum_call (begins_text z t) trivial fun h' he hit hk => wpAny_pyIter_enum he (fin hk (turn_enumS z t _ _) ⟨⟨.none, he⟩, ⟨_, hit, rfl, rfl⟩, Nat.succ_ne_self _, Nat.zero_le _⟩ q)
end
section
variable {g : Gv} {C : Hp → Hp → Prop} {F0 : Hp} {ds : List D} {vs : List V} {a : Addr}
theorem itg_enumT (hb : SqT g.K F0 a vs) (r : RepVs g F0 ds vs) : ItG g (IteT g.K a vs) (Fz F0) (enumD ds) where
  go := fun i H F hi z => ⟨SqT.mono z.2 (SqT.mono z.1 hb), by rw [r.length]; simpa [enumD] using hi⟩
  stop := fun H F z => ⟨SqT.mono z.2 (SqT.mono z.1 hb), by rw [r.length]; simp [enumD]⟩
  yld := fun i d H F Gx σ ρ L x H' hd z st y => by
    obtain ⟨T, v, rfl, hT, rfl, y⟩ := y
    obtain ⟨x, hx, rfl⟩ := enum_at hd
    obtain ⟨u, h1, h2⟩ := r.get hx
    rw [h1] at y; cases y
    exact newPair st hT repI (RepV.mono g z.1 _ _ h2)
theorem itg_enumS (x : Str) : ItG g (IteS x) C (enumD (signsD x)) where
  go := fun i H F hi z => by
    show i < x.cps.size
    simpa [enumD, signsD] using hi
  stop := fun H F z => by
    show x.cps.size ≤ _
    simp [enumD, signsD]
  yld := fun i d H F Gx σ ρ L v H' hd z st y => by
    obtain ⟨T, c, rfl, hT, rfl, y⟩ := y
    obtain ⟨w, hx, rfl⟩ := enum_at hd
    have hd' : w = .str ⟨#[c]⟩ := by
      unfold signsD at hx
      rw [List.getElem?_map, Array.getElem?_toList, y] at hx
      cases hx; rfl
    subst hd'
    exact newPair st hT repI repS
end
def enI (f : M O) : M (List D) := f.bind fun o => M.of (o.its.map enumD)
section
variable {W : WX} {X : Cx} {ca : Ca} {e : Expr} {p pos tpos : Pos} {elts : List Expr} {kk : Nat}
theorem i_enum {f : M O} (hg : Gl X "enumerate") (hm : X.mg "enumerate" = none) (he : PE X e (T (gv X ca) W f)) (hs : starEach [e] X.env = (false, eval e X.env) :: starEach [] X.env := by rfl) : PI X (.Tuple elts kk tpos) (.Call (.Name "enumerate" p) [e] [] pos) (Ti (gv X ca) W (enI f)) :=
  PI.imp (pi_enumA hg hm he hs) fun σ H R ⟨F, Gx, ρ, st, r⟩ => ⟨F, Gx, ρ, st, r.bind.mono fun o H1 F1 ρ1 le r1 v st1 => by
    obtain ⟨ds', e, q⟩ := r1.of
    obtain ⟨ds, e', rfl⟩ := Option.map_eq_some_iff.mp e
    obtain ⟨F2, le2, st2, h⟩ := its_ok st1 e'
    rcases h with ⟨a, vs, rfl, hq, rv⟩ | ⟨a, vs, rfl, hq, rv⟩ | ⟨x, rfl, rfl⟩
    · exact .inl ⟨a, vs, rfl, SqL.of (st2.le _ _ hq), q H1 F1 (Le.refl _) _ F2 le2 st2 (itg_enumL.imp (at_fz hq rv))⟩
    · exact .inr (.inl ⟨a, vs, rfl, SqT.mono st2.le hq, q H1 F1 (Le.refl _) _ F2 le2 st2 (itg_enumT hq rv)⟩)
    · exact .inr (.inr ⟨x, rfl, q H1 F1 (Le.refl _) _ F2 le2 st2 (itg_enumS x)⟩)⟩
end
end PF

set_option Elab.async false
set_option linter.all false
set_option maxRecDepth 100000
set_option maxHeartbeats 2000000
namespace PF
open PySem PySem.Spec PyProof.Rows L2

/-! ### [.. for .. in .. if .. for .. in .. if ..] -/
/-- one source's turns, the items pushed behind os0 -/
theorem lc_step {g : Gv} {h : O → M Unit} {ft : M Bool} {fe : M O} {own : List Nat} {J : It} {ds : List D} {C : Hp → Hp → Prop} {F Gx H : Hp} {σ : L2.St} {ρ : Sls} {Dd : Addr} {os0 : List O} {Pf : Hp → Prop} {n : Nat} (hn : n = σ.length) (it : ItG g J C ds)
    (hC : ∀ H' F' σ' ρ' L', Le F F' → StG g H' F' Gx σ' ρ' L' → C H' F') (st : StG g H F Gx (L2.wipe σ own) ρ [(.ref Dd, .lst os0)]) (hz : os0.length + ds.length ≤ lim)
    (r : Okk (lcL own h ft fe ds) F ρ fun os H' F' ρ' => StG g H' F' Gx (L2.wipe σ own) ρ' [(.ref Dd, .lst (os0 ++ os))] → Pf H') :
    ∃ Wv : Nat → Nat → Hp → Prop, (∃ m, Wv 0 m H) ∧ ∀ i m H, Wv i m H → (J.stop i H ∧ Pf H) ∨ (J.go i H ∧ ∃ Nx : Hp → Prop, (∀ H', Nx H' → ∃ m', m' < m ∧ Wv (i + 1) m' H') ∧
      ∀ x H', J.yld i H x H' → Tg g W0 (others n own) h x (L2.wipe σ own) H' fun σ2 H2 => L2.wipe σ2 own = L2.wipe σ own ∧ Tt g W0 ft σ2 H2 fun b H3 =>
        if b = true then T g W0 fe σ2 H3 fun y H4 => ∃ acc, H4 Dd = some (.lst acc) ∧ acc.length < sizeLine ∧ Nx (upd H4 Dd (.lst (acc ++ [y]))) else Nx H3) := by
  subst hn
  have wl : (L2.wipe σ own).length = σ.length := wipe_length σ own
  have ww : L2.wipe (L2.wipe σ own) own = L2.wipe σ own := by
    refine List.ext_getElem? fun i => ?_
    rw [wipe_get, wipe_get, wl]
    by_cases q : i ∈ own <;> simp [q]
  refine ⟨fun i m H1 => m = ds.length - i ∧ i ≤ ds.length ∧ ∃ F1 ρ1 os, Le F F1 ∧ os.length ≤ os0.length + i ∧ StG g H1 F1 Gx (L2.wipe σ own) ρ1 [(.ref Dd, .lst os)] ∧
    Okk (lcL own h ft fe (ds.drop i)) F1 ρ1 fun rest H' F' ρ' => StG g H' F' Gx (L2.wipe σ own) ρ' [(.ref Dd, .lst (os ++ rest))] → Pf H',
    ⟨ds.length, by simp, Nat.zero_le _, F, ρ, os0, Le.refl F, Nat.le_refl _, st, r⟩, ?_⟩
  rintro i m H1 ⟨rfl, hi, F1, ρ1, os, le1, hos, st1, r1⟩
  have c1 := hC H1 F1 _ ρ1 _ le1 st1
  by_cases hlt : i < ds.length
  · refine .inr ⟨it.go i H1 F1 hlt c1, fun H' => ∃ F' ρ' os', Le F F' ∧ os'.length ≤ os0.length + (i + 1) ∧ StG g H' F' Gx (L2.wipe σ own) ρ' [(.ref Dd, .lst os')] ∧
      Okk (lcL own h ft fe (ds.drop (i + 1))) F' ρ' (fun rest H' F' ρ' => StG g H' F' Gx (L2.wipe σ own) ρ' [(.ref Dd, .lst (os' ++ rest))] → Pf H'),
      fun H' ⟨F', ρ', os', a, b, c, d⟩ => ⟨ds.length - (i + 1), by omega, rfl, hlt, F', ρ', os', a, b, c, d⟩, fun x H' y => ?_⟩
    obtain ⟨F2, le2, st2, rx⟩ := it.yld i ds[i] H1 F1 Gx _ ρ1 _ x H' (by simp [hlt]) c1 st1 y
    have e : ds.drop i = ds[i] :: ds.drop (i + 1) := List.drop_eq_getElem_cons hlt
    rw [e] at r1
    have r2 : Okk ((h (.val ds[i])).bind fun _ => ft.bind fun b => if b = true then fe.bind fun o => (wpM own).bind fun _ => (lcL own h ft fe (ds.drop (i + 1))).bind fun os => M.pure (o :: os) else (wpM own).bind fun _ => lcL own h ft fe (ds.drop (i + 1))) F2 ρ1
      (fun rest H' F' ρ' => StG g H' F' Gx (L2.wipe σ own) ρ' [(.ref Dd, .lst (os ++ rest))] → Pf H') := r1.le le2
    obtain ⟨Gx1, st3, back⟩ := st2.asideS
    refine ⟨F2, Gx1, ρ1, .val ds[i], st3.ofVal rx, ?_⟩
    refine (Okk.rs r2.bind).mono fun _ H3 F3 σ3 ρ3 le3 p3 r5 st4 => ?_
    have p3' : Pin (others (L2.wipe σ own).length own) (L2.wipe σ own) σ3 := by rw [wl]; exact p3
    have w3 : L2.wipe σ3 own = L2.wipe σ own := (wipe_pin p3').trans ww
    refine ⟨w3, F3, Gx1, ρ3, st4, Okk.rn (Okk.mono r5.bind fun b H4 F4 ρ4 le4 r6 st5 => ?_)⟩
    cases b with
    | true =>
      simp only [if_true] at r6
      refine ⟨F4, Gx1, ρ4, st5, Okk.rn (Okk.mono r6.bind fun o H5 F5 ρ5 le5 r7 v st6 => ?_)⟩
      have st7 := back H5 F5 _ ρ5 _ ((le3.trans le4).trans le5) st6
      obtain ⟨acc, ha, hl, st8⟩ := StG.push (L := []) st7
      refine ⟨acc, ha, by rw [hl, sizeLine_eq]; unfold lim at hz; omega, F5, wipeR ρ5 own, os ++ [o], ((le1.trans le2).trans (le3.trans le4)).trans le5, by simp; omega, ?_, ?_⟩
      · have st9 := st8.wipe own
        rw [w3] at st9
        exact st9
      · have r8 := r7.bind.ok (a := ()) (ρ' := wipeR ρ5 own) rfl H5 F5 (Le.refl _)
        refine Okk.mono r8.bind fun rest H' F' ρ' _ q => ?_
        have q2 := q.pure H' F' (Le.refl _)
        rw [List.append_assoc]
        exact q2
    | false =>
      simp only [Bool.false_eq_true, if_false] at r6
      have st7 := back H4 F4 _ ρ4 _ (le3.trans le4) st5
      have st9 := st7.wipe own
      rw [w3] at st9
      have r8 := r6.bind.ok (a := ()) (ρ' := wipeR ρ4 own) rfl H4 F4 (Le.refl _)
      exact ⟨F4, wipeR ρ4 own, os, (le1.trans le2).trans (le3.trans le4), by omega, st9, r8⟩
  · have e : i = ds.length := by omega
    subst e
    rw [List.drop_length] at r1
    refine .inl ⟨it.stop H1 F1 c1, ?_⟩
    have r2 : Okk (M.pure ([] : List O)) F1 ρ1 fun rest H' F' ρ' => StG g H' F' Gx (L2.wipe σ own) ρ' [(.ref Dd, .lst (os ++ rest))] → Pf H' := r1
    have q := r2.pure H1 F1 (Le.refl _)
    rw [List.append_nil] at q
    exact q st1
def lc2L (vs vs1 : List Nat) (h : O → M Unit) (ft : M Bool) (fi1 : M (List D)) (h1 : O → M Unit) (ft1 : M Bool) (fe : M O) : Nat → List D → M (List O)
  | _, [] => M.pure []
  | n, d :: ds => (h (.val d)).bind fun _ => ft.bind fun b => if b = true then fi1.bind fun ds1 => if n + ds1.length ≤ lim then (wpM vs1).bind fun _ => (lcL vs1 h1 ft1 fe ds1).bind fun os1 => (wpM vs).bind fun _ => (lc2L vs vs1 h ft fi1 h1 ft1 fe (n + os1.length) ds).bind fun os => M.pure (os1 ++ os)
      else M.stuck
    else (wpM vs).bind fun _ => lc2L vs vs1 h ft fi1 h1 ft1 fe n ds
def lc2F (vs vs1 : List Nat) (fi : M (List D)) (h : O → M Unit) (ft : M Bool) (fi1 : M (List D)) (h1 : O → M Unit) (ft1 : M Bool) (fe : M O) : M O := fi.bind fun ds => noX ((wpM vs).bind fun _ => (lc2L vs vs1 h ft fi1 h1 ft1 fe 0 ds).bind fun os => M.pure (.lst os))
theorem wipe_id2 (σ : L2.St) (own : List Nat) : L2.wipe (L2.wipe σ own) own = L2.wipe σ own := by
  refine List.ext_getElem? fun i => ?_
  rw [wipe_get, wipe_get, wipe_length]
  by_cases q : i ∈ own <;> simp [q]
theorem wipe_sub {σ τ : L2.St} {vs vs1 : List Nat} (hv : ∀ i ∈ vs1, i ∈ vs) (h : L2.wipe σ vs1 = L2.wipe τ vs1) : L2.wipe σ vs = L2.wipe τ vs := by
  have hl : σ.length = τ.length := by have := congrArg List.length h; simpa [wipe_length] using this
  refine List.ext_getElem? fun i => ?_
  rw [wipe_get, wipe_get, hl]
  by_cases q : i ∈ vs
  · simp [q]
  · have q1 : i ∉ vs1 := fun z => q (hv i z)
    have e := congrArg (·[i]?) h
    simp only [wipe_get, q1, if_false] at e
    simp [q, e]
theorem lc2_ask {g : Gv} {W : WX} {vs vs1 : List Nat} {fi fi1 : M (List D)} {h h1 : O → M Unit} {ft ft1 : M Bool} {fe : M O} {n : Nat} {σ : L2.St} {H : Hp} {Q : VK} (hn : n = σ.length) (hv : ∀ i ∈ vs1, i ∈ vs) (r : T g W (lc2F vs vs1 fi h ft fi1 h1 ft1 fe) σ H Q) :
    tLc2 (Ti g W fi) (Tg g W0 (others n vs) h) (Tt g W0 ft) (Ti g W0 fi1) (Tg g W0 (others n vs1) h1) (Tt g W0 ft1) (T g W0 fe) vs vs1 σ H Q := by
  subst hn
  obtain ⟨F0, Gx, ρ0, st0, r⟩ := r
  refine ⟨F0, Gx, ρ0, st0, r.bind.mono fun ds H1 F1 ρ1 le r1 J F le2 st it Dd hD => ?_⟩
  have r2 : Okk _ F ρ1 _ := (Okk.mono r1.okk fun o H' F' ρ' le q => q).le le2
  have r := r2.bind.ok (a := ()) (ρ' := wipeR ρ1 vs) rfl H1 F (Le.refl _)
  have wl : (L2.wipe σ vs).length = σ.length := wipe_length σ vs
  have st0 : StG g (upd H1 Dd (.lst [])) F Gx (L2.wipe σ vs) (wipeR ρ1 vs) [(.ref Dd, .lst [])] := ⟨(st.wipe vs).wf, (st.wipe vs).len, Good.newO (L := slL (L2.wipe σ vs) (wipeR ρ1 vs)) (st.wipe vs).gd hD fun S hS => by
    rw [RepO]; exact ⟨Dd, [], rfl, hS, upd_same, by rw [RepOs]⟩⟩
  refine ⟨fun i m H1 => m = ds.length - i ∧ i ≤ ds.length ∧ ∃ F1 ρ1 os, Le F F1 ∧ StG g H1 F1 Gx (L2.wipe σ vs) ρ1 [(.ref Dd, .lst os)] ∧
    Okk (lc2L vs vs1 h ft fi1 h1 ft1 fe os.length (ds.drop i)) F1 ρ1 fun rest H' F' ρ' => StG g H' F' Gx (L2.wipe σ vs) ρ' [(.ref Dd, .lst (os ++ rest))] → Q (.ref Dd) H',
    ⟨ds.length, by simp, Nat.zero_le _, F, _, [], Le.refl F, st0, Okk.mono r.bind fun os H' F' ρ' le q st' => q.pure H' F' (Le.refl _) _ st'.unwipe⟩, ?_⟩
  rintro i m H1 ⟨rfl, hi, F1, ρ1, os, le1, st1, r1⟩
  have c1 : Fz F H1 F1 := ⟨le1, st1.le⟩
  by_cases hlt : i < ds.length
  · refine .inr ⟨it.go i H1 F1 hlt c1, fun H' => ∃ F' ρ' os', Le F F' ∧ StG g H' F' Gx (L2.wipe σ vs) ρ' [(.ref Dd, .lst os')] ∧
      Okk (lc2L vs vs1 h ft fi1 h1 ft1 fe os'.length (ds.drop (i + 1))) F' ρ' (fun rest H' F' ρ' => StG g H' F' Gx (L2.wipe σ vs) ρ' [(.ref Dd, .lst (os' ++ rest))] → Q (.ref Dd) H'),
      fun H' ⟨F', ρ', os', a, b, c⟩ => ⟨ds.length - (i + 1), by omega, rfl, hlt, F', ρ', os', a, b, c⟩, fun x H' y => ?_⟩
    obtain ⟨F2, le2, st2, rx⟩ := it.yld i ds[i] H1 F1 Gx _ ρ1 _ x H' (by simp [hlt]) c1 st1 y
    have e : ds.drop i = ds[i] :: ds.drop (i + 1) := List.drop_eq_getElem_cons hlt
    rw [e] at r1
    have r2 := r1.le le2
    rw [lc2L] at r2
    obtain ⟨Gx1, st3, back⟩ := st2.asideS
    refine ⟨F2, Gx1, ρ1, .val ds[i], st3.ofVal rx, ?_⟩
    refine (Okk.rs r2.bind).mono fun _ H3 F3 σ3 ρ3 le3 p3 r5 st4 => ?_
    have p3' : Pin (others (L2.wipe σ vs).length vs) (L2.wipe σ vs) σ3 := by rw [wl]; exact p3
    have w3 : L2.wipe σ3 vs = L2.wipe σ vs := (wipe_pin p3').trans (wipe_id2 σ vs)
    have l3 : σ.length = σ3.length := by rw [p3.1, wl]
    refine ⟨w3, F3, Gx1, ρ3, st4, Okk.rn (Okk.mono r5.bind fun b H4 F4 ρ4 le4 r6 st5 => ?_)⟩
    cases b with
    | true =>
      simp only [if_true] at r6
      refine ⟨F4, Gx1, ρ4, st5, Okk.rn (Okk.mono r6.bind fun ds1 H5 F5 ρ5 le5 r7 J1 F6 le6 st6 it1 => ?_)⟩
      have st7 := back H5 F6 _ ρ5 _ (((le3.trans le4).trans le5).trans le6) st6
      rw [List.append_nil] at st7
      split at r7
      · rename_i hz
        have r8 := (r7.le le6).bind.ok (a := ()) (ρ' := wipeR ρ5 vs1) rfl H5 F6 (Le.refl _)
        refine lc_step l3 it1 (fun H' F' σ' ρ' L' l s => ⟨l, s.le⟩) (st7.wipe vs1) hz (Okk.mono r8.bind fun os1 H7 F7 ρ7 le7 r9 st8 => ?_)
        have st9 := st8.unwipe.wipe vs
        rw [w3] at st9
        have r10 := r9.bind.ok (a := ()) (ρ' := wipeR ρ7 vs) rfl H7 F7 (Le.refl _)
        refine ⟨F7, wipeR ρ7 vs, os ++ os1, (((le1.trans le2).trans (le3.trans le4)).trans (le5.trans le6)).trans le7, st9, ?_⟩
        rw [List.length_append]
        refine Okk.mono r10.bind fun rest H' F' ρ' _ q => ?_
        have q2 := q.pure H' F' (Le.refl _)
        rw [List.append_assoc]
        exact q2
      · obtain ⟨_, _, e⟩ := r7.run; cases e
    | false =>
      simp only [Bool.false_eq_true, if_false] at r6
      have st7 := back H4 F4 _ ρ4 _ (le3.trans le4) st5
      have st9 := st7.wipe vs
      rw [w3] at st9
      have r8 := r6.bind.ok (a := ()) (ρ' := wipeR ρ4 vs) rfl H4 F4 (Le.refl _)
      exact ⟨F4, wipeR ρ4 vs, os, (le1.trans le2).trans (le3.trans le4), st9, r8⟩
  · have e : i = ds.length := by omega
    subst e
    rw [List.drop_length, lc2L] at r1
    refine .inl ⟨it.stop H1 F1 c1, ?_⟩
    have q := r1.pure H1 F1 (Le.refl _)
    rw [List.append_nil] at q
    exact q st1
section
variable {W : WX} {X : Cx} {ca : Ca} {pn : List Nat} {elt tg iter tg1 iter1 : Expr} {ifs ifs1 : List Expr} {scope : Scope} {own : List (Str × Nat)} {vs1 : List Nat} {pos : Pos} {h h1 : O → M Unit} {ft ft1 : M Bool} {fe : M O} {fi fi1 : M (List D)}
theorem e_lc2 (hc : X.calm = true) (hN : X.N.Nodup) (hi : PI X tg iter (Ti (gv X ca) W fi)) (ok : BlkOk X.N X.env.scope scope own) (hv : ∀ i ∈ vs1, i ∈ own.map (·.2))
    (hg : ∀ (s : Shared) (H : Hp) (C : Addr) (cl : List (Str × Addr)) (fp : List Addr), PG (X.blk s H scope (compEnvC scope cl C X.env) fp) tg (Tg (gv X ca) W0 (others X.N.length (own.map (·.2))) h))
    (ht : ∀ (s : Shared) (H : Hp) (C : Addr) (cl : List (Str × Addr)) (fp : List Addr), PTs (X.blk s H scope (compEnvC scope cl C X.env) fp) ifs (Tt (gv X ca) W0 ft))
    (hi1 : ∀ (s : Shared) (H : Hp) (C : Addr) (cl : List (Str × Addr)) (fp : List Addr), PI (X.blk s H scope (compEnvC scope cl C X.env) fp) tg1 iter1 (Ti (gv X ca) W0 fi1))
    (hg1 : ∀ (s : Shared) (H : Hp) (C : Addr) (cl : List (Str × Addr)) (fp : List Addr), PG (X.blk s H scope (compEnvC scope cl C X.env) fp) tg1 (Tg (gv X ca) W0 (others X.N.length vs1) h1))
    (ht1 : ∀ (s : Shared) (H : Hp) (C : Addr) (cl : List (Str × Addr)) (fp : List Addr), PTs (X.blk s H scope (compEnvC scope cl C X.env) fp) ifs1 (Tt (gv X ca) W0 ft1))
    (he : ∀ (s : Shared) (H : Hp) (C : Addr) (cl : List (Str × Addr)) (fp : List Addr), PE (X.blk s H scope (compEnvC scope cl C X.env) fp) elt (T (gv X ca) W0 fe))
    (hs : ∀ x, foldedSetIterable iter X.env x = pure x := by intro _; rfl) (hs1 : ∀ env x, foldedSetIterable iter1 env x = pure x := by intro _ _; rfl) :
    PE X (.ListComp elt [⟨tg, iter, ifs, 0⟩, ⟨tg1, iter1, ifs1, 0⟩] scope pos) (T (gv X ca) W (lc2F (own.map (·.2)) vs1 fi h ft fi1 h1 ft1 fe)) :=
  ⟨fun pins s σ H Q I q => (pe_lc2 hc hN hi ok hv hg ht hi1 hg1 ht1 he hs hs1).run pins s σ H Q I (lc2_ask I.len.symm hv q)⟩
end
end PF

set_option Elab.async false
set_option linter.all false
set_option maxRecDepth 100000
set_option maxHeartbeats 2000000
namespace PF
open PySem PySem.Spec PyProof.Rows L2

/-! ### {k: v for .. in .. if ..}, the keys tuples -/
section
variable {X : Cx} {ca : Ca}
theorem dN_store {pins : List (Addr × Obj)} {σ : L2.St} {H : Hp} {s : Shared} {E : Value → Shared → Prop} {D : Addr} {y z : V} {u r : Value} {N : Hp → Prop} (hu : X.A.units + 65 < cLine) (I : Inv X pins σ H s) (ry : RelV y u) (rz : RelV z r) (q : rSetN (gv X ca) (.ref D) y z H N)
    {Q : Unit → Shared → Prop} (h : ∀ s' H', Inv X pins σ H' s' → N H' → Q () s') : wpAny (model X.prog X.w) X.A (dictSet D u r) Q E s := by
  obtain ⟨F, a, xs, ks, d, k, b, le, e1, e2, hH, hz, nk, rd, hk, dk, q⟩ := q
  cases e1
  subst e2
  cases ry
  obtain ⟨zl, lo, ys, pr, dd⟩ := dN_of I le nk hH
  have hz2 : ys.length ≤ sizeLine := by rw [← Paired.length pr]; exact zl
  have hn : (ys.map (·.1)).Nodup := by obtain ⟨_, _, _, _, _, _, _, _, hn⟩ := dd; exact hn
  refine wpAny_dictSet_heap (knd := nestedKind X.prog X.w) (hsz := hz2) (by show X.A.units + 8 < cLine; omega) ⟨nk_is I le d k _ _ hk rd rfl, dk⟩ dd fun h' dd' hs => ?_
  have he : ∃ q, h'.get? D = some q := by obtain ⟨q1, _, _, hq, _⟩ := dd'; exact ⟨q1, hq⟩
  refine h _ _ (d_write I (by rw [hH]; exact True.intro) hs he (dN_new ?_ lo (putN_rel rz pr hn) ?_)) q
  · have := putN_len k b z xs
    omega
  · obtain ⟨q1, es, ep, hq, h2, h3, h4, h5, h6⟩ := dd'
    exact ⟨q1, es, ep, hq, h2, h3, h4, h5, h6⟩
/-- what such a comprehension asks; D: the new dict -/
def tDn (g : Gv) (wi : L2.TI) (gt : TG) (tt : TT) (tk tv : TE) (vs : List Nat) : TE := fun σ H Q => wi σ H fun J H1 => ∀ D, H1 D = none → ∃ Wv : Nat → Nat → Hp → Prop, (∃ m, Wv 0 m (upd H1 D (dTN g D []))) ∧ ∀ i m H, Wv i m H →
  (J.stop i H ∧ Q (.ref D) H) ∨ (J.go i H ∧ ∃ N : Hp → Prop, (∀ H', N H' → ∃ m', m' < m ∧ Wv (i + 1) m' H') ∧ ∀ x H', J.yld i H x H' → gt x (L2.wipe σ vs) H' fun σ2 H2 => L2.wipe σ2 vs = L2.wipe σ vs ∧
    tt σ2 H2 fun b H3 => if b = true then tk σ2 H3 fun y H4 => tv σ2 H4 fun z H5 => rSetN g (.ref D) y z H5 N else N H3)
set_option maxHeartbeats 8000000 in
theorem pe_dn {kx vx tg iter : Expr} {ifs : List Expr} {scope : Scope} {own : List (Str × Nat)} {pos : Pos} {wi : L2.TI} {gt : TG} {tt : TT} {tk tv : TE} (hu : X.A.units + 65 < cLine) (hc : X.calm = true) (hN : X.N.Nodup) (hi : PI X tg iter wi) (ok : BlkOk X.N X.env.scope scope own)
    (hg : ∀ (s : Shared) (H : Hp) (C : Addr) (cl : List (Str × Addr)) (fp : List Addr), PG (X.blk s H scope (compEnvC scope cl C X.env) fp) tg gt)
    (ht : ∀ (s : Shared) (H : Hp) (C : Addr) (cl : List (Str × Addr)) (fp : List Addr), PTs (X.blk s H scope (compEnvC scope cl C X.env) fp) ifs tt)
    (hk : ∀ (s : Shared) (H : Hp) (C : Addr) (cl : List (Str × Addr)) (fp : List Addr), PE (X.blk s H scope (compEnvC scope cl C X.env) fp) kx tk)
    (he : ∀ (s : Shared) (H : Hp) (C : Addr) (cl : List (Str × Addr)) (fp : List Addr), PE (X.blk s H scope (compEnvC scope cl C X.env) fp) vx tv)
    (hs : ∀ x, foldedSetIterable iter X.env x = pure x := by intro _; rfl) :
    PE X (.DictComp kx vx [⟨tg, iter, ifs, 0⟩] scope pos) (tDn (gv X ca) wi gt tt tk tv (own.map (·.2))) := by
  refine ⟨fun pins s σ H Q I h => ?_⟩
  rw [arm_eval_DictComp]
  have hfree : ∀ y ∈ scope.names, y.2 = .free → ∃ c, X.env.cells.lookup y.1 = some c := fun y hy e => by
    rcases ok.free y hy e with k | k
    · exact I.ok.has _ (.inl k)
    · exact I.ok.has _ (.inr k)
  refine wpAny_comprehension_free rfl hs (closure_ok hfree) ok.kind (fun y hy e => by rw [ok.uniq y hy, e]) (thn (hi.run pins s σ H _ I h) fun xv sA hx => thn hx fun itv sB hB => ?_)
  obtain ⟨it, fp, tn, J, HB, e, IB, TT', stB, fB, q⟩ := hB
  subst e
  refine wpAny_newObj_type (newEnv_comp ?_)
  generalize hD : sB.heap.objs.size = D
  have hDn : HB D = none := IB.hok.fresh (Nat.le_of_eq hD)
  obtain ⟨Wv, ⟨m0, w0⟩, turn⟩ := q D hDn
  generalize hsC : ({ sB with heap := sB.heap.push { cls := .type "dict", data := .dict #[] } } : Shared) = sC
  have IC : Inv X pins σ (upd HB D (dTN (gv X ca) D [])) sC := by
    rw [← hsC]
    refine IB.laid (t' := sB.toks) (fun b o e => Heap.get?_push_of_some _ e) (Nat.le_of_eq hD) ?_
    rw [← hD]
    exact dN_empty sB.heap IB.big
  have hC : sC.heap = sB.heap.push { cls := .type "dict", data := .dict #[] } := by rw [← hsC]
  have sz : ∀ b ∈ fp, b < sB.heap.objs.size := fun b hb => by
    obtain ⟨o, e, _⟩ := TT'.obj _ _ stB b hb
    exact Heap.lt_size e
  have fC : ∀ b ∈ fp, FpOk X pins (upd HB D (dTN (gv X ca) D [])) b ∧ b < sC.heap.objs.size := fun b hb => by
    have hlt := sz b hb
    refine ⟨⟨?_, (fB b hb).2⟩, by rw [hC, Heap.size_push]; exact Nat.lt_succ_of_lt hlt⟩
    rw [upd_ne (by rw [← hD]; exact Nat.ne_of_lt hlt)]
    exact (fB b hb).1
  have stC : tn 0 sC.heap := TT'.keep _ _ _ stB fun b _ o e => by rw [hC]; exact Heap.get?_push_of_some _ e
  have I4 := block_start IC ok hN fC
  generalize hH3 : upd HB D (dTN (gv X ca) D []) = H3 at IC I4 w0 fC
  generalize hcl : cellsFrom (sC.heap.objs.size + 1) scope.names (cloFrom X.env.cells scope.names []) = cl at I4
  have pg := hg sC H3 sC.heap.objs.size cl fp
  have pt := ht sC H3 sC.heap.objs.size cl fp
  have pk := hk sC H3 sC.heap.objs.size cl fp
  have pe := he sC H3 sC.heap.objs.size cl fp
  have nfp : ∀ b ∈ fp, H3 b = none := fun b hb => (fC b hb).1.1
  show codeAny _ _ (.compStart (.DictComp kx vx [⟨tg, iter, ifs, 0⟩] scope pos) 0 (.ref it) (.ref D) (compEnvC scope cl sC.heap.objs.size X.env)) (compPost (model X.prog X.w) X.A X.xe none _ (.ref D) sC.heap.objs.size) { sC with heap := pushCells (sC.heap.push { cls := .type "dict", data := .dict #[] }) scope.names }
  generalize hce : compEnvC scope cl sC.heap.objs.size X.env = ce at I4 pg pt pk pe ⊢
  have cL : ce.locals = sC.heap.objs.size := by subst hce; rfl
  generalize hs4 : ({ sC with heap := pushCells (sC.heap.push { cls := .type "dict", data := .dict #[] }) scope.names } : Shared) = s4 at I4 ⊢
  have st4 : tn 0 s4.heap := TT'.keep _ _ _ stC fun b _ o e => by rw [← hs4]; exact pushCells_keeps _ _ _ _ (Heap.get?_push_of_some _ e)
  have stat : ∀ {σ' : L2.St} {H' : Hp} {s' : Shared}, Inv (X.blk sC H3 scope ce fp) [] σ' H' s' → (∀ b ∈ fp, H' b = none) → ∀ b ∈ fp, FpOk (X.blk sC H3 scope ce fp) [] H' b := fun {σ' H' s'} I' hn b hb =>
    ⟨hn b hb, (I'.ok.exf b hb).1, I'.ok.exfs b hb, .inl hb, fun x c e => (I'.ok.exf b hb).2 x c e, fun p hp => absurd (show p ∈ ([] : List (Addr × Obj)) ++ [] from hp) (by simp)⟩
  have loop : codeAny (model X.prog X.w) X.A (.compLoop (.DictComp kx vx [⟨tg, iter, ifs, 0⟩] scope pos) 0 (.ref it) (.ref D) ce) (compPost (model X.prog X.w) X.A X.xe none (EP X pins σ Q) (.ref D) sC.heap.objs.size) s4 := by
    refine compLoop_anyD (fun n s' => ∃ i H', Inv (X.blk sC H3 scope ce fp) [] (L2.wipe σ (own.map (·.2))) H' s' ∧ tn i s'.heap ∧ (∀ b ∈ fp, H' b = none) ∧ Wv i n H') ?_ m0 ⟨0, H3, I4, st4, nfp, w0⟩
    rintro n s5 ⟨i, H5, I5, st5, n5, w5⟩
    rcases turn i n H5 w5 with ⟨stop, qq⟩ | ⟨go, N, hNx, step⟩
    · refine thnF (TT'.done (X.blk sC H3 scope ce fp) rfl rfl rfl hc i [] s5 _ H5 (fun _ _ => False) I5 (stat I5 n5) st5 stop) fun r s6 ⟨hr, I6⟩ => ?_
      subst hr
      have I7 : Inv X pins σ H5 s6 := IC.call' (ch := fp) I6.os I6.base I6.hok I6.bare fun b hb => ⟨(fC b hb).1.2.2.2.1, (fC b hb).1.2.1, (fC b hb).1.2.2.2.2.1, (fC b hb).1.2.2.2.2.2⟩
      have nC : H5 sC.heap.objs.size = none := by
        have z : H5 ce.locals = none := I6.free
        rw [cL] at z
        exact z
      obtain ⟨m, hn, _⟩ := I6.loc
      have hn : s6.heap.Ns ce.locals m := hn
      rw [cL] at hn
      obtain ⟨f0, f1, f2, f3, f4, f5⟩ := IC.fpOk (H' := H5) (Nat.le_refl _) nC
      exact ⟨m, hn, fun h'' sb => ⟨.ref D, H5, I7.turned (t' := s6.toks) (fun b o hb e => (sb.2 b hb).trans e) f0 f1 f3 f4 f5, rfl, qq⟩⟩
    · refine thnF (TT'.item (X.blk sC H3 scope ce fp) rfl rfl rfl hc i [] s5 _ H5 (fun _ _ => False) I5 (stat I5 n5) st5 go) fun r s6 ⟨u, hr, h6⟩ => ?_
      subst hr
      refine thnF h6 fun _ s7 ⟨x, H7, I7, r7, y7, st7, n7⟩ => ?_
      have I7' := I7.pinned (stat I7 n7) (TT'.obj _ _ st7)
      refine thnF (pg.run _ s7 _ H7 x u _ I7' r7 (step x H7 y7)) fun _ s8 ⟨σ8, H8, I8, hw8, q8⟩ => ?_
      refine thnF (pt.run _ s8 σ8 H8 _ I8 q8) fun b s9 ⟨H9, I9, q9⟩ => ?_
      have fin : ∀ {s' : Shared} {H' : Hp}, Inv (X.blk sC H3 scope ce fp) ([] ++ pinsAt fp s7.heap) σ8 H' s' → N H' → ∃ m, m < n ∧ ∃ i H', Inv (X.blk sC H3 scope ce fp) [] (L2.wipe σ (own.map (·.2))) H' s' ∧ tn i s'.heap ∧ (∀ b ∈ fp, H' b = none) ∧ Wv i m H' := fun {s' H'} I' nx => by
        obtain ⟨m', hm, w'⟩ := hNx H' nx
        have pin' : ∀ b ∈ fp, ∀ o, s7.heap.get? b = some o → s'.heap.get? b = some o ∧ H' b = none := fun b hb o e =>
          let z := I'.pin (b, o) (List.mem_append_right _ (List.mem_append_right _ (mem_pinsAt hb e)))
          ⟨z.1, z.2.1⟩
        have hl : (L2.wipe σ (own.map (·.2))).length = σ8.length := by rw [← hw8, wipe_length]
        refine ⟨m', hm, i + 1, H', (I'.unpinned (pins := [])).weak hl (fun j v e => ?_), TT'.keep _ _ _ st7 fun b hb o e => (pin' b hb o e).1, fun b hb => ?_, w'⟩
        · rw [← hw8] at e
          exact (wipe_some e).1
        · obtain ⟨o, e, _⟩ := TT'.obj _ _ st7 b hb
          exact (pin' b hb o e).2
      cases b with
      | false =>
        simp only [Bool.false_eq_true, if_false] at q9 ⊢
        exact fin I9 q9
      | true =>
        simp only [if_true] at q9 ⊢
        refine thnF (pk.run _ s9 σ8 H9 _ I9 q9) fun z s10 ⟨yk, H10, I10, r10, q10⟩ => ?_
        refine thnF (pe.run _ s10 σ8 H10 _ I10 q10) fun z2 s11 ⟨yv, H11, I11, r11, q11⟩ => ?_
        exact dN_store (X := X.blk sC H3 scope ce fp) (ca := ca) hu I11 r10 r11 q11 fun s12 H12 I12 nx => fin I12 nx
  exact codeAny_compStart_dict loop (TT'.self X.A 0 _ _ _ st4 loop)
end
section
variable {g : Gv} {H F Gx : Hp} {σ : L2.St} {ρ : Sls} {L A : List (V × O)}
theorem Good.wrL {o : O} {a : Addr} (gd : Good g H F Gx ((.ref a, o) :: (A ++ L))) :
    ∃ S1 SA, RepO g H F o (.ref a) S1 ∧ RepL g H F A SA ∧ (∀ b, S1 b → SA b → False) ∧ ∀ (o' : O) (u : HO), S1 a → RepO g (upd H a u) F o' (.ref a) (fun b => S1 b ∨ SA b) → Good g (upd H a u) F Gx ((.ref a, o') :: L) := by
  obtain ⟨S, hT, hF, hG, hFG, hS, S1, S2, sp, r1, r2⟩ := gd.ex
  obtain ⟨SA, SL, sp2, rA, rL⟩ := RepL.split g A _ S2 r2
  refine ⟨S1, SA, r1, rA, fun b h1 h2 => sp.d b h1 (sp2.l b h2), fun o' u ha ro => ?_⟩
  obtain ⟨nF, nG, _⟩ := hS a (sp.l a ha)
  exact ⟨S, hT.wr (sp.l a ha), fun b o e => by
      rw [upd_ne (fun q => by subst q; rw [nF] at e; cases e)]; exact hF b o e, fun b o e => by
      rw [upd_ne (fun q => by subst q; rw [nG] at e; cases e)]; exact hG b o e, hFG, fun b hb => by
      obtain ⟨x, y, z⟩ := hS b hb
      refine ⟨x, y, ?_⟩
      by_cases q : b = a
      · subst q; exact ⟨_, upd_same⟩
      · rw [upd_ne q]; exact z, fun b => S1 b ∨ SA b, SL, ⟨fun b hb => hb.elim (sp.l b) fun hb => sp.r b (sp2.l b hb), fun b hb => sp.r b (sp2.r b hb), fun b h1 h2 => h1.elim (fun h1 => sp.d b h1 (sp2.r b h2)) fun h1 => sp2.d b h1 h2⟩,
      ro, RepL.frame g (Le.refl F) _ SL SL (fun _ h => h) (fun b hb => upd_ne (fun e => sp.d a ha (by rw [← e]; exact sp2.r b hb))) rL⟩
theorem StG.dput {Dd : Addr} {ks : List D} {os : List O} {kd : D} {v : O} {y z : V} {N : Hp → Prop} (st : StG g H F Gx σ ρ ((.ref Dd, .dct true ks os) :: (z, v) :: (y, .val kd) :: L)) (hk : nkOk kd = true) (hz : ks.length ≤ lim) (hl : os.length = ks.length)
    (q : ∀ H', StG g H' F Gx σ ρ ((.ref Dd, .dct true (dputK ks kd) (dputV ks os kd v)) :: L) → N H') : rSetN g (.ref Dd) y z H N := by
  obtain ⟨ds, kk, rfl, h2, h3⟩ := nkOk_is hk
  have rk : RepV g F (.tup ds) y := (st.perm (L' := (y, .val (.tup ds)) :: (.ref Dd, .dct true ks os) :: (z, v) :: L) (by
    refine (List.Perm.cons _ (.swap _ _ _)).trans (.swap _ _ _))).gd.val (B := (.ref Dd, .dct true ks os) :: (z, v) :: L ++ slL σ ρ)
  have st2 : StG g H F Gx σ ρ ((.ref Dd, .dct true ks os) :: ([(z, v)] ++ L)) := by
    have w := st.perm (L' := (y, .val (.tup ds)) :: (.ref Dd, .dct true ks os) :: (z, v) :: L) (by
      refine (List.Perm.cons _ (.swap _ _ _)).trans (.swap _ _ _))
    exact w.drop1
  obtain ⟨S1, SA, r1, rA, d, w⟩ := Good.wrL (A := [(z, v)]) (L := L ++ slL σ ρ) st2.gd
  rw [RepO] at r1
  obtain ⟨a, xs, e, sa, e2, e3, e4, e5, rs⟩ := r1
  cases e
  have rk' := rk
  rw [RepV] at rk'
  obtain ⟨b, _, rfl, _⟩ := rk'
  have hxs : xs.length = ks.length := by have := congrArg List.length e3; simpa using this.symm
  refine ⟨F, Dd, xs, ks, .tup ds, kk, b, st.le, rfl, rfl, e5, by rw [hxs]; exact lim_lt hz, ⟨e2, e3, e4⟩, rk, h2, h3, q _ ⟨st.wf, st.len, w _ _ sa ?_⟩⟩
  rw [RepO]
  have nk' := NKs.put (v := z) h2 h3 rk (ks := ks) (xs := xs) ⟨e2, e3, e4⟩
  refine ⟨Dd, putN xs kk b z, rfl, .inl sa, nk'.rep, nk'.nk, nk'.dep, upd_same, ?_⟩
  rw [putN_vals h2 e3]
  exact RepOs.wrote (RepOs.dput hl rs rA.one fun b h1 h2 => d b h1.1 h2) sa d
end
def dcL (own : List Nat) (h : O → M Unit) (ft : M Bool) (fk fv : M O) : List D → List O → List D → M O
  | ks, os, [] => M.pure (.dct true ks os)
  | ks, os, d :: ds => (h (.val d)).bind fun _ => ft.bind fun b => if b = true then fk.bind fun k => fv.bind fun v => match k with
      | .val kd => if nkOk kd = true ∧ ks.length ≤ lim ∧ os.length = ks.length then (wpM own).bind fun _ => dcL own h ft fk fv (dputK ks kd) (dputV ks os kd v) ds else M.stuck
      | _ => M.stuck
    else (wpM own).bind fun _ => dcL own h ft fk fv ks os ds
def dcF (own : List Nat) (fi : M (List D)) (h : O → M Unit) (ft : M Bool) (fk fv : M O) : M O := fi.bind fun ds => noX ((wpM own).bind fun _ => dcL own h ft fk fv [] [] ds)
theorem dc_ask {g : Gv} {W : WX} {vs : List Nat} {fi : M (List D)} {h : O → M Unit} {ft : M Bool} {fk fv : M O} {n : Nat} {σ : L2.St} {H : Hp} {Q : VK} (hn : n = σ.length) (r : T g W (dcF vs fi h ft fk fv) σ H Q) :
    tDn g (Ti g W fi) (Tg g W0 (others n vs) h) (Tt g W0 ft) (T g W0 fk) (T g W0 fv) vs σ H Q := by
  subst hn
  obtain ⟨F0, Gx, ρ0, st0, r⟩ := r
  refine ⟨F0, Gx, ρ0, st0, r.bind.mono fun ds H1 F1 ρ1 le r1 J F le2 st it Dd hD => ?_⟩
  have r2 : Okk _ F ρ1 _ := (Okk.mono r1.okk fun o H' F' ρ' le q => q).le le2
  have r := r2.bind.ok (a := ()) (ρ' := wipeR ρ1 vs) rfl H1 F (Le.refl _)
  have wl : (L2.wipe σ vs).length = σ.length := wipe_length σ vs
  have st0 : StG g (upd H1 Dd (dTN g Dd [])) F Gx (L2.wipe σ vs) (wipeR ρ1 vs) [(.ref Dd, .dct true [] [])] := ⟨(st.wipe vs).wf, (st.wipe vs).len, Good.newO (L := slL (L2.wipe σ vs) (wipeR ρ1 vs)) (st.wipe vs).gd hD fun S hS => by
    rw [RepO]; exact ⟨Dd, [], rfl, hS, by rw [List.map_nil, RepVs], rfl, fun _ h => (nomatch h), upd_same, by rw [List.map_nil, RepOs]⟩⟩
  refine ⟨fun i m H1 => m = ds.length - i ∧ i ≤ ds.length ∧ ∃ F1 ρ1 ks os, Le F F1 ∧ StG g H1 F1 Gx (L2.wipe σ vs) ρ1 [(.ref Dd, .dct true ks os)] ∧
    Okk (dcL vs h ft fk fv ks os (ds.drop i)) F1 ρ1 fun o H' F' ρ' => StG g H' F' Gx (L2.wipe σ vs) ρ' [(.ref Dd, o)] → Q (.ref Dd) H',
    ⟨ds.length, by simp, Nat.zero_le _, F, _, [], [], Le.refl F, st0, Okk.mono r fun o H' F' ρ' le q st' => q _ st'.unwipe⟩, ?_⟩
  rintro i m H1 ⟨rfl, hi, F1, ρ1, ks, os, le1, st1, r1⟩
  have c1 : Fz F H1 F1 := ⟨le1, st1.le⟩
  by_cases hlt : i < ds.length
  · refine .inr ⟨it.go i H1 F1 hlt c1, fun H' => ∃ F' ρ' ks' os', Le F F' ∧ StG g H' F' Gx (L2.wipe σ vs) ρ' [(.ref Dd, .dct true ks' os')] ∧
      Okk (dcL vs h ft fk fv ks' os' (ds.drop (i + 1))) F' ρ' (fun o H' F' ρ' => StG g H' F' Gx (L2.wipe σ vs) ρ' [(.ref Dd, o)] → Q (.ref Dd) H'),
      fun H' ⟨F', ρ', ks', os', a, b, c⟩ => ⟨ds.length - (i + 1), by omega, rfl, hlt, F', ρ', ks', os', a, b, c⟩, fun x H' y => ?_⟩
    obtain ⟨F2, le2, st2, rx⟩ := it.yld i ds[i] H1 F1 Gx _ ρ1 _ x H' (by simp [hlt]) c1 st1 y
    have e : ds.drop i = ds[i] :: ds.drop (i + 1) := List.drop_eq_getElem_cons hlt
    rw [e] at r1
    have r2 := r1.le le2
    rw [dcL] at r2
    obtain ⟨Gx1, st3, back⟩ := st2.asideS
    refine ⟨F2, Gx1, ρ1, .val ds[i], st3.ofVal rx, ?_⟩
    refine (Okk.rs r2.bind).mono fun _ H3 F3 σ3 ρ3 le3 p3 r5 st4 => ?_
    have p3' : Pin (others (L2.wipe σ vs).length vs) (L2.wipe σ vs) σ3 := by rw [wl]; exact p3
    have w3 : L2.wipe σ3 vs = L2.wipe σ vs := (wipe_pin p3').trans (wipe_id2 σ vs)
    refine ⟨w3, F3, Gx1, ρ3, st4, Okk.rn (Okk.mono r5.bind fun b H4 F4 ρ4 le4 r6 st5 => ?_)⟩
    cases b with
    | true =>
      simp only [if_true] at r6
      refine ⟨F4, Gx1, ρ4, st5, Okk.rn (Okk.mono r6.bind fun k H5 F5 ρ5 le5 r7 y st6 => ?_)⟩
      obtain ⟨Gx2, st6', back2⟩ := st6.asideS
      refine ⟨F5, Gx2, ρ5, st6', Okk.rn (Okk.mono r7.bind fun v H6 F6 ρ6 le6 r8 z st7 => ?_)⟩
      have st8 := back2 H6 F6 _ ρ6 _ le6 st7
      have st9 := back H6 F6 _ ρ6 _ (((le3.trans le4).trans le5).trans le6) st8
      split at r8
      · rename_i kd
        split at r8
        · rename_i hk
          have st10 : StG g H6 F6 Gx σ3 ρ6 [(.ref Dd, .dct true ks os), (z, v), (y, .val kd)] := st9.perm (List.Perm.cons _ (.swap _ _ _))
          refine StG.dput st10 hk.1 hk.2.1 hk.2.2 fun H7 st11 => ?_
          have st12 := st11.wipe vs
          rw [w3] at st12
          exact ⟨F6, wipeR ρ6 vs, _, _, (((le1.trans le2).trans (le3.trans le4)).trans le5).trans le6, st12, r8.bind.ok (a := ()) (ρ' := wipeR ρ6 vs) rfl H7 F6 (Le.refl _)⟩
        · obtain ⟨_, _, e⟩ := r8.run; cases e
      · obtain ⟨_, _, e⟩ := r8.run; cases e
    | false =>
      simp only [Bool.false_eq_true, if_false] at r6
      have st7 := back H4 F4 _ ρ4 _ (le3.trans le4) st5
      have st9 := st7.wipe vs
      rw [w3] at st9
      have r8 := r6.bind.ok (a := ()) (ρ' := wipeR ρ4 vs) rfl H4 F4 (Le.refl _)
      exact ⟨F4, wipeR ρ4 vs, ks, os, (le1.trans le2).trans (le3.trans le4), st9, r8⟩
  · have e : i = ds.length := by omega
    subst e
    rw [List.drop_length, dcL] at r1
    refine .inl ⟨it.stop H1 F1 c1, ?_⟩
    exact r1.pure H1 F1 (Le.refl _) st1
section
variable {W : WX} {X : Cx} {ca : Ca} {kx vx tg iter : Expr} {ifs : List Expr} {scope : Scope} {own : List (Str × Nat)} {pos : Pos} {h : O → M Unit} {ft : M Bool} {fk fv : M O} {fi : M (List D)}
theorem e_dc (hu : X.A.units + 65 < cLine) (hc : X.calm = true) (hN : X.N.Nodup) (hi : PI X tg iter (Ti (gv X ca) W fi)) (ok : BlkOk X.N X.env.scope scope own)
    (hg : ∀ (s : Shared) (H : Hp) (C : Addr) (cl : List (Str × Addr)) (fp : List Addr), PG (X.blk s H scope (compEnvC scope cl C X.env) fp) tg (Tg (gv X ca) W0 (others X.N.length (own.map (·.2))) h))
    (ht : ∀ (s : Shared) (H : Hp) (C : Addr) (cl : List (Str × Addr)) (fp : List Addr), PTs (X.blk s H scope (compEnvC scope cl C X.env) fp) ifs (Tt (gv X ca) W0 ft))
    (hk : ∀ (s : Shared) (H : Hp) (C : Addr) (cl : List (Str × Addr)) (fp : List Addr), PE (X.blk s H scope (compEnvC scope cl C X.env) fp) kx (T (gv X ca) W0 fk))
    (he : ∀ (s : Shared) (H : Hp) (C : Addr) (cl : List (Str × Addr)) (fp : List Addr), PE (X.blk s H scope (compEnvC scope cl C X.env) fp) vx (T (gv X ca) W0 fv)) (hs : ∀ x, foldedSetIterable iter X.env x = pure x := by intro _; rfl) :
    PE X (.DictComp kx vx [⟨tg, iter, ifs, 0⟩] scope pos) (T (gv X ca) W (dcF (own.map (·.2)) fi h ft fk fv)) :=
  ⟨fun pins s σ H Q I q => (pe_dn (ca := ca) hu hc hN hi ok hg ht hk he hs).run pins s σ H Q I (dc_ask I.len.symm q)⟩
end
end PF

set_option Elab.async false
set_option linter.all false
set_option maxRecDepth 100000
set_option maxHeartbeats 2000000
namespace PF
open PySem PySem.Spec PyProof.Rows L2

/-! ### names of the text's top -/
section
variable {W : WX} {X : Cx} {ca : Ca} {x : Str} {pos : Pos} {i : Int} {z : Str} {d : D} {T' : String}
theorem e_gI (h : ∃ t, X.mg x = some (.int i t)) (hg : Gl X x := by rfl) (hd : (x == ("__debug__" : Str)) = false := by decide) : PE X (.Name x pos) (T (gv X ca) W (M.pure (.val (.int i)))) := by
  obtain ⟨t, h⟩ := h
  exact e_c (pe_glob (v := .int i) hg h ⟨t, rfl⟩ hd) fun _ => repI
theorem e_gS (h : ∃ t, X.mg x = some (.str z t)) (hg : Gl X x := by rfl) (hd : (x == ("__debug__" : Str)) = false := by decide) : PE X (.Name x pos) (T (gv X ca) W (M.pure (.val (.str z)))) := by
  obtain ⟨t, h⟩ := h
  exact e_c (pe_glob (v := .str z) hg h ⟨t, rfl⟩ hd) fun _ => repS
theorem e_gD (h : ∃ u v, X.mg x = some u ∧ RelV v u ∧ ∀ F, RepV (gv X ca) F d v) (hg : Gl X x := by rfl) (hd : (x == ("__debug__" : Str)) = false := by decide) : PE X (.Name x pos) (T (gv X ca) W (M.pure (.val d))) := by
  obtain ⟨u, v, h, r, q⟩ := h
  exact e_c (pe_glob hg h r hd) q
theorem e_gT (hm : X.mg x = none) (hv : bootBuiltins x = some (.type T')) (hg : Gl X x := by rfl) (hn : x ≠ "__name__" := by decide) (hd : (x == ("__debug__" : Str)) = false := by decide) : PE X (.Name x pos) (T (gv X ca) W (M.pure (.val (.ty T')))) :=
  e_c (pe_bltn (v := .ty T') hg hm hv rfl hn hd) fun _ => by rw [RepV]
end

/-! ### defs of the text -/
section
variable {P : Program} {w : World} {K : PySem.W.Frag} {mg : Str → Option Value} {base : Heap}
/-- a def that may be called: where it stands, what it promises -/
structure Own (P : Program) (w : World) (K : PySem.W.Frag) (mg : Str → Option Value) (base : Heap) (ca : Ca) (k : Nat) (x : Str) (ps : List Str) (ms : List Bool) (sem : M O) : Prop where
  ex : ∃ f fd, mg x = some (.ref f) ∧ PySem.W.keepIn K (.ref f) = true ∧ Binds K fd ps [] ∧ FnOk P w K mg base (L2.CX P w) k f fd ps (spOf ⟨P, w, K, ca⟩ ms sem)
theorem d_end {N : List Str} {ca : Ca} {ms : List Bool} {b : M Out} {vs : List V} {H : Hp} {Q : VK} {E : XK} (hN : ms.length ≤ N.length) (h : spOf ⟨P, w, K, ca⟩ ms (defM N.length b) vs H Q E) :
    Ts ⟨P, w, K, ca⟩ (fun c d _ H => E c d H) (pinOf 0 ms) b { nx := fun _ H' => Q .non H', rt := Q } (L2.start N vs) H := by
  obtain ⟨hv, F, Gx, ρ, st, q⟩ := h
  have hlen : vs.length = ρ.length := by simpa using st.len
  have st' : StG ⟨P, w, K, ca⟩ H F Gx (L2.start N vs) (ρ ++ List.replicate (N.length - ρ.length) none) [] := by
    unfold L2.start
    rw [hlen]
    refine ⟨fun i o e => ?_, by simp [hlen], ?_⟩
    · by_cases hi : i < ρ.length
      · rw [List.getElem?_append_left hi] at e
        obtain ⟨v, hv⟩ := st.wf i o e
        exact ⟨v, by rw [List.getElem?_append_left (by simpa [hlen] using hi)]; exact hv⟩
      · rw [List.getElem?_append_right (by omega), List.getElem?_replicate] at e
        split at e <;> cases e
    · rw [slL_more _ _ _ (by simpa using hlen)]
      exact st.gd
  have pn : ∀ (σ' : L2.St), Pin (pinOf 0 ms) (L2.start N vs) σ' → ∀ (j : Nat), ms[j]? = some true → σ'[j]? = (vs.map some)[j]? := fun σ' hp j hj => by
    have hj2 : j < ms.length := (List.getElem?_eq_some_iff.mp hj).1
    have m := pinOf_mem ms 0 j hj
    rw [Nat.zero_add] at m
    rw [hp.2 j m]
    unfold L2.start
    rw [List.getElem?_append_left (by simp; omega)]
  refine ⟨F, Gx, _, st', ?_⟩
  unfold defM at q
  unfold Rs
  cases e : b (ρ ++ List.replicate (N.length - ρ.length) none) with
  | none => rw [e] at q; exact q
  | some p =>
    obtain ⟨r, ρ'⟩ := p
    rw [e] at q
    have wide : ∀ {H' F' : Hp} {σ' : L2.St} {L : List (V × O)}, StG ⟨P, w, K, ca⟩ H' F' Gx σ' ρ' L → Pin (pinOf 0 ms) (L2.start N vs) σ' → StG ⟨P, w, K, ca⟩ H' F' Gx (vs.map some) (mask ms ρ') L := fun st2 hp => by
      have hl2 : ms.length ≤ ρ'.length := by
        rw [← st2.len, hp.1]
        unfold L2.start
        simp
        omega
      exact st2.masked hv hl2 (pn _ hp)
    cases r with
    | ex x => exact fun H' F' σ' d le hp st2 hx => q d H' F' le (wide st2 hp) hx
    | ok out =>
      intro H' F' σ' le hp
      cases out with
      | nx => exact fun st2 => q .non H' F' le ((wide st2 hp).ofVal repN)
      | rt o => exact fun v st2 => q v H' F' le (wide st2 hp)
      | bk => exact q.elim
      | ct => exact q.elim
theorem d_okD {x qual : Str} {params : Arguments} {body : List Stmt} {scope : Scope} {f : Addr} {fd : FuncData} {N ps : List Str} {k : Nat} {ca : Ca} {ms : List Bool} {b : M Out} (Fu : FunD K x qual params body scope [] [] f fd) (S : FnScope N ps scope) (hl : ms.length = ps.length) (hN : ms.length ≤ N.length)
    (hbody : ∀ (cdv : Value) (A : Around) (outer : List Env) (s : Shared) (H : Hp) (E : XK), Room k (A.deeper (envOfC qual scope s.heap.objs.size f cdv)) →
      PSs (cxOf (L2.CX P w) P w K mg base N qual scope f cdv A outer s H E) body (Ts ⟨P, w, K, ca⟩ (fun c d _ H => E c d H) (pinOf 0 ms) b)) :
    FnOk P w K mg base (L2.CX P w) (k + 1) f fd ps (spOf ⟨P, w, K, ca⟩ ms (defM N.length b)) := by
  refine Fu.ok S (fun vs H Q E h => h.1.trans hl) (fun cdv A outer s H vs Q E hr h => ⟨_, hbody cdv A outer s H E hr, ?_⟩)
  exact d_end hN h
end
section
variable {W : WX} {X : Cx} {ca : Ca} {k j : Nat} {x : Str} {ps : List Str} {ms : List Bool} {sem : M O} {p pos : Pos} {e : Expr} {es : List Expr} {ks : List (Option Nat)} {fs : M (List O)}
theorem e_own (Ow : Own X.prog X.w X.K X.mg X.base ca k x ps ms sem) (hr : Room j X.A) (hj : k ≤ j) (tk : Takes X W) (hms : ms.length = ks.length) (ha : PA X (e :: es) (TLm (gv X ca) W ks fs)) (hg : Gl X x := by rfl) (hdb : (x == ("__debug__" : Str)) = false := by decide)
    (he : starEach (e :: es) X.env = (false, eval e X.env) :: starEach es X.env := by rfl) (hpl : (backTo pos (starEach es X.env)).any (·.1) = false := by rfl) : PE X (.Call (.Name x p) (e :: es) [] pos) (T (gv X ca) W (callF ks fs ms sem)) := by
  obtain ⟨f, fd, hm, hk, hb, Fo⟩ := Ow.ex
  exact e_call Fo (hr.mono hj) hg hm hk hb tk hms ha hdb he hpl
end
end PF

set_option Elab.async false
set_option linter.all false
set_option maxRecDepth 100000
set_option maxHeartbeats 2000000
namespace PF
open PySem PySem.Spec PyProof.Rows L2

/-! ### {"a": .., "b": ..} -/
def zipk (ks : List Str) (vs : List V) : List (V × V) := (ks.zip vs).map fun p => (V.str p.1, p.2)
def DS (g : Gv) (W : WX) (X : Cx) (pos : Pos) (keys : List (Option Expr)) (values : List Expr) (ks : List Str) (fs : M (List O)) : Prop :=
  ∃ trs, PPs X pos keys values trs ∧ keys.length = ks.length ∧ values.length = ks.length ∧ keys.all (·.isSome) = true ∧ ∀ σ H Q, TL g W fs σ H (fun vs H' => Q (zipk ks vs) H') → tPairs trs σ H Q
section
variable {g : Gv} {W : WX} {X : Cx} {pos : Pos} {e : Expr} {keys : List (Option Expr)} {values : List Expr} {ks : List Str} {f : M O} {fs : M (List O)} {k : Str} {j : Nat} {kp : Pos}
theorem ds_nil : DS g W X pos [] [] [] nilA := ⟨[], pps_nil, rfl, rfl, rfl, fun σ H Q ⟨F, Gx, ρ, st, r⟩ => r.pure H F (Le.refl F) [] rfl st⟩
theorem ds_cons (h : PE X e (T g W f)) (r : DS g W X pos keys values ks fs) : DS g W X pos (some (.Constant (.str k) j kp) :: keys) (e :: values) (k :: ks) (consA f fs) := by
  obtain ⟨trs, h1, h2, h3, h4, h5⟩ := r
  refine ⟨(tC (.str k), T g W f) :: trs, pps_cons pe_str h h1, by simp [h2], by simp [h3], by simp [h4], fun σ H Q ⟨F, Gx, ρ, st, r⟩ => ?_⟩
  refine ⟨F, Gx, ρ, st, r.bind.mono fun o H1 F1 ρ1 le r1 v st1 => ?_⟩
  obtain ⟨Gx', st1', back⟩ := st1.aside
  refine h5 σ H1 _ ⟨F1, Gx', ρ1, st1', (r1.aside fun H' F' ρ' le q => (back H' F' ρ' [] le q).drop1).bind.mono fun os H2 F2 ρ2 le2 r2 vs hl st2 => ?_⟩
  exact r2.pure H2 F2 (Le.refl _) (v :: vs) (by simp [hl]) (back H2 F2 ρ2 _ le2 st2)
end
theorem merge_all : ∀ (more acc : List (Key × V)), (∀ p ∈ more, valV acc p.1 = none) → (more.map (·.1)).Nodup → mergeK acc more = acc ++ more
  | [], acc, _, _ => by simp [mergeK]
  | p :: more, acc, h, n => by
    have hp := h p (by simp)
    rw [List.map_cons, List.nodup_cons] at n
    show mergeK (putK acc p.1 p.2) more = _
    rw [putK_new p.2 hp, merge_all more _ (fun q hq => ?_) n.2, List.append_assoc]
    · rfl
    · have ne : ¬ q.1 = p.1 := fun e => n.1 (by rw [← e]; exact List.mem_map_of_mem hq)
      rw [valV_snoc p.1 q.1 p.2 acc hp, if_neg ne]
      exact h q (by simp [hq])
def dispF (ks : List Str) (fs : M (List O)) : M O := fs.bind fun os => if ks.Nodup ∧ os.length = ks.length ∧ ks.length ≤ 15 ∧ 0 < ks.length then M.pure (.dct false (ks.map .str) os) else M.stuck
section
variable {W : WX} {X : Cx} {ca : Ca} {pos : Pos} {keys : List (Option Expr)} {values : List Expr} {ks : List Str} {fs : M (List O)}
theorem e_disp (h : DS (gv X ca) W X pos keys values ks fs) (h15 : keys.length ≤ 15 := by decide) (h0 : keys ≠ [] := by exact fun h => nomatch h) : PE X (.Dict keys values pos) (T (gv X ca) W (dispF ks fs)) := by
  obtain ⟨trs, h1, h2, h3, h4, h5⟩ := h
  refine PE.imp (pe_disp h1 h4 (h2.trans h3.symm) h0 h15) fun σ H Q ⟨F, Gx, ρ, st, r⟩ p hp => ?_
  have st0 : StG (gv X ca) (upd H p (.dK [])) F Gx σ ρ [(.ref p, .dct false [] [])] := ⟨st.wf, st.len, Good.newO (L := slL σ ρ) st.gd hp fun S hS => by
    rw [RepO]; exact ⟨p, [], rfl, hS, ⟨[], rfl, List.nodup_nil, rfl, upd_same⟩, by rw [RepOs]⟩⟩
  obtain ⟨Gx', st1, back⟩ := st0.aside
  refine h5 σ _ _ ⟨F, Gx', ρ, st1, (r.aside fun H' F' ρ' le q => (back H' F' ρ' [] le q).drop1).bind.mono fun os H2 F2 ρ2 le2 r2 vs hl st2 => ?_⟩
  have st3 := back H2 F2 ρ2 _ le2 st2
  split at r2
  · rename_i hk
    obtain ⟨nd, ho, hz, hpos⟩ := hk
    have st3' : StG (gv X ca) H2 F2 Gx σ ρ2 ((.ref p, .dct false [] []) :: (vs.zip os ++ [])) := by rw [List.append_nil]; exact st3
    obtain ⟨S1, SA, r1, rA, d, w⟩ := Good.wrL (A := vs.zip os) (L := [] ++ slL σ ρ2) (by simpa using st3'.gd)
    rw [RepO] at r1
    obtain ⟨a, us, e, sa, ⟨kk, e1, e2, e3, e4⟩, rs⟩ := r1
    cases e
    have ek : kk = [] := by cases kk with
      | nil => rfl
      | cons _ _ => cases e1
    subst ek
    have hH : H2 p = some (.dK []) := by simpa using e4
    have kvk : ((ks.map Sum.inr : List Key).zip vs).map (·.1) = ks.map Sum.inr := by rw [List.map_fst_zip]; simp; omega
    have mk : mergeK [] ((ks.map Sum.inr : List Key).zip vs) = (ks.map Sum.inr : List Key).zip vs := by
      rw [merge_all _ [] (fun q _ => rfl) (by rw [kvk]; exact List.pairwise_map.mpr (List.Pairwise.imp (fun {a b} h e => h (by injection e)) nd))]
      rfl
    refine ⟨hH, (ks.map Sum.inr : List Key).zip vs, ?_, ?_, ?_⟩
    · unfold zipk
      rw [List.zip_map_left, List.map_map]
      rfl
    · rw [List.length_zip, List.length_map]; omega
    · rw [mk]
      refine r2.pure _ F2 (Le.refl _) (.ref p) ⟨st3.wf, st3.len, ?_⟩
      refine (w _ _ sa ?_ : _)
      rw [RepO]
      refine ⟨p, vs, rfl, .inl sa, ⟨ks.map Sum.inr, by rw [List.map_map]; rfl, List.pairwise_map.mpr (List.Pairwise.imp (fun {a b} h e => h (by injection e)) nd), by rw [List.length_map, hl, ho], upd_same⟩, ?_⟩
      refine RepOs.wrote ?_ sa d
      refine RepOs.sup _ (fun b hb => .inr hb) (RepL.toOs hl rA)
  · obtain ⟨_, _, e⟩ := r2.run; cases e
end
section
variable {P : Program} {w : World} {K : PySem.W.Frag} {mg : Str → Option Value} {base : Heap}
/-- nothing is promised -/
theorem d_stuck {x qual : Str} {params : Arguments} {body : List Stmt} {scope : Scope} {f : Addr} {fd : FuncData} {N ps : List Str} {k : Nat} {ca : Ca} {ms : List Bool} (Fu : FunD K x qual params body scope [] [] f fd) (S : FnScope N ps scope) (hl : ms.length = ps.length) :
    FnOk P w K mg base (L2.CX P w) (k + 1) f fd ps (spOf ⟨P, w, K, ca⟩ ms M.stuck) := by
  refine Fu.ok S (fun vs H Q E h => h.1.trans hl) (fun cdv A outer s H vs Q E hr h => ?_)
  obtain ⟨_, F, Gx, ρ, st, q⟩ := h
  exact q.elim
end
/-! ### what the text's top has made -/
mutual
def repK (K : PySem.W.Frag) : D → Value → Bool
  | .int i, .int j _ => decide (i = j)
  | .str x, .str y _ => decide (x = y)
  | .tup ds, .ref b => match K.lookup b with
    | some ⟨.type c, _, .seq its _, _⟩ => decide (c = "tuple") && (decide (its.size ≤ sizeLine) && repKs K ds its.toList)
    | _ => false
  | _, _ => false
def repKs (K : PySem.W.Frag) : List D → List Value → Bool
  | [], [] => true
  | d :: ds, u :: us => repK K d u && repKs K ds us
  | _, _ => false
end
section
variable {g : Gv}
mutual
theorem repK_ok : ∀ (d : D) (u : Value), repK g.K d u = true → ∃ v, RelV v u ∧ ∀ F, RepV g F d v
  | .int i, .int j t, h => by
    rw [repK] at h
    have e := of_decide_eq_true h
    subst e
    exact ⟨.int i, ⟨t, rfl⟩, fun _ => repI⟩
  | .str x, .str y t, h => by
    rw [repK] at h
    have e := of_decide_eq_true h
    subst e
    exact ⟨.str x, ⟨t, rfl⟩, fun _ => repS⟩
  | .tup ds, .ref b, h => by
    rw [repK] at h
    split at h
    · rename_i c od its n sl q
      rw [Bool.and_eq_true, Bool.and_eq_true] at h
      obtain ⟨h1, h2, h3⟩ := h
      obtain ⟨vs, r, rv⟩ := repKs_ok ds _ h3
      refine ⟨.ref b, rfl, fun F => ?_⟩
      rw [RepV]
      exact ⟨b, vs, rfl, .inr ⟨_, its, n, q, congrArg Value.type (of_decide_eq_true h1), rfl, of_decide_eq_true h2, r⟩, rv F⟩
    · cases h
  | .non, u, h => by simp [repK] at h
  | .bl _, u, h => by simp [repK] at h
  | .lst _, u, h => by simp [repK] at h
  | .dct _ _ _, u, h => by simp [repK] at h
  | .ins _ _ _, u, h => by simp [repK] at h
  | .scr _, u, h => by simp [repK] at h
  | .ty _, u, h => by simp [repK] at h
  | .exn _ _ _, u, h => by simp [repK] at h
  | .int _, .none, h => by simp [repK] at h
  | .int _, .bool _, h => by simp [repK] at h
  | .int _, .str _ _, h => by simp [repK] at h
  | .int _, .ref _, h => by simp [repK] at h
  | .int _, .type _, h => by simp [repK] at h
  | .int _, .builtin _, h => by simp [repK] at h
  | .int _, .float _ _, h => by simp [repK] at h
  | .int _, .bytes _ _, h => by simp [repK] at h
  | .str _, .none, h => by simp [repK] at h
  | .str _, .bool _, h => by simp [repK] at h
  | .str _, .int _ _, h => by simp [repK] at h
  | .str _, .ref _, h => by simp [repK] at h
  | .str _, .type _, h => by simp [repK] at h
  | .str _, .builtin _, h => by simp [repK] at h
  | .str _, .float _ _, h => by simp [repK] at h
  | .str _, .bytes _ _, h => by simp [repK] at h
  | .tup _, .none, h => by simp [repK] at h
  | .tup _, .bool _, h => by simp [repK] at h
  | .tup _, .int _ _, h => by simp [repK] at h
  | .tup _, .str _ _, h => by simp [repK] at h
  | .tup _, .type _, h => by simp [repK] at h
  | .tup _, .builtin _, h => by simp [repK] at h
  | .tup _, .float _ _, h => by simp [repK] at h
  | .tup _, .bytes _ _, h => by simp [repK] at h
theorem repKs_ok : ∀ (ds : List D) (us : List Value), repKs g.K ds us = true → ∃ vs, Vals vs us ∧ ∀ F, RepVs g F ds vs
  | [], [], _ => ⟨[], .nil, fun F => by rw [RepVs]⟩
  | d :: ds, u :: us, h => by
    rw [repKs, Bool.and_eq_true] at h
    obtain ⟨v, r, q⟩ := repK_ok d u h.1
    obtain ⟨vs, rs, qs⟩ := repKs_ok ds us h.2
    exact ⟨v :: vs, .cons r rs, fun F => by rw [RepVs]; exact ⟨v, vs, rfl, q F, qs F⟩⟩
  | [], _ :: _, h => by simp [repKs] at h
  | _ :: _, [], h => by simp [repKs] at h
end
end
def keyS (e : DictEntry) : Option Str := match e.key with
  | .str z _ => some z
  | _ => none
def tabK (K : PySem.W.Frag) (a : Addr) (ks : List Str) (ds : List D) : Bool := match K.lookup a with
  | some ⟨_, _, .dict es _, _⟩ => !es.toList.any (·.refKey) && (decide (es.toList.map keyS = ks.map some) && repKs K ds (es.toList.map (·.val)))
  | _ => false
theorem key_is {e : DictEntry} {k x : Str} (h : keyS e = some k) : e.key.isStr x = (x == k) := by
  unfold keyS at h
  split at h
  · rename_i z t q
    cases h
    rw [q]
    show (k == x) = (x == k)
    by_cases c : k = x
    · subst c; rfl
    · rw [beq_eq_false_iff_ne.mpr c, beq_eq_false_iff_ne.mpr (Ne.symm c)]
  · cases h
theorem tab_find {x : Str} : ∀ {l : List DictEntry} {ks : List Str} {vs : List V}, l.map keyS = ks.map some → Vals vs (l.map (·.val)) → RelO ((ks.zip vs).lookup x) ((l.find? (·.key.isStr x)).map (·.val))
  | [], [], _, _, r => by cases r; exact trivial
  | [], _ :: _, _, h, _ => by simp at h
  | _ :: _, [], _, h, _ => by simp at h
  | e :: l, k :: ks, vs, h, r => by
    simp only [List.map_cons, List.cons.injEq] at h
    cases r with
    | @cons v u vs' us' r1 r2 =>
      have ih := tab_find (x := x) h.2 r2
      rw [List.zip_cons_cons, List.lookup_cons, List.find?_cons, key_is h.1]
      cases c : (x == k) with
      | true => exact r1
      | false => exact ih
theorem tabK_ok {g : Gv} {a : Addr} {ks : List Str} {ds : List D} {es : Array DictEntry} {n : Nat} (kd : KDict g.K g.w a es n) (h : tabK g.K a ks ds = true) : ∀ F, RepV g F (.dct false (ks.map .str) ds) (.ref a) := by
  unfold tabK at h
  split at h
  · rename_i c od es' n' sl q
    rw [Bool.and_eq_true, Bool.and_eq_true] at h
    obtain ⟨h1, h2, h3⟩ := h
    have h2 := of_decide_eq_true h2
    obtain ⟨vs, r, rv⟩ := repKs_ok (g := g) ds _ h3
    have hl : vs.length = ks.length := by
      rw [r.length, List.length_map]
      have := congrArg List.length h2
      simpa using this
    intro F
    rw [RepV]
    refine ⟨a, vs, rfl, .inr ⟨es, n, ks.zip vs, kd, ?_, ?_, fun x => ?_⟩, rv F⟩
    · have e : (ks.zip vs).map (fun z => D.str z.1) = ((ks.zip vs).map (·.1)).map D.str := by rw [List.map_map]; rfl
      rw [e, List.map_fst_zip (by omega)]
    · rw [List.map_snd_zip (by omega)]
    · refine ⟨(es'.toList.find? (·.key.isStr x)).map (·.val), ?_, tab_find h2 r⟩
      have h1' : es'.toList.any (·.refKey) = false := by simpa using h1
      unfold PySem.W.nsIn
      simp only [q]
      cases c2 : es'.toList.find? (·.key.isStr x) with
      | some e => rfl
      | none => simp only [h1']; rfl
  · cases h
end PF

set_option Elab.async false
set_option linter.all false
set_option maxRecDepth 100000
set_option maxHeartbeats 2000000
namespace PF
open PySem PySem.Spec PyProof.Rows L2

/-! ### what a run comes to, from behind -/
def Ev {α : Type} (f : M α) (ρ : Sls) (R : α → Sls → Prop) : Prop := ∃ a ρ', f ρ = some (.ok a, ρ') ∧ R a ρ'
section
variable {α β : Type} {f : M α} {ρ : Sls} {R R' : α → Sls → Prop}
theorem Ev.mono (h : Ev f ρ R) (i : ∀ a ρ', R a ρ' → R' a ρ') : Ev f ρ R' := let ⟨a, ρ', e, r⟩ := h; ⟨a, ρ', e, i a ρ' r⟩
theorem ev_pure {a : α} : Ev (M.pure a) ρ R ↔ R a ρ := ⟨fun ⟨a', ρ', e, r⟩ => by cases e; exact r, fun r => ⟨a, ρ, rfl, r⟩⟩
theorem ev_bind {k : α → M β} {R : β → Sls → Prop} : Ev (f.bind k) ρ R ↔ Ev f ρ fun a ρ1 => Ev (k a) ρ1 R := by
  constructor
  · rintro ⟨b, ρ', e, r⟩
    unfold M.bind at e
    cases q : f ρ with
    | none => rw [q] at e; cases e
    | some p =>
      obtain ⟨z, ρ1⟩ := p
      rw [q] at e
      cases z with
      | ex x => cases e
      | ok a => exact ⟨a, ρ1, q, b, ρ', e, r⟩
  · rintro ⟨a, ρ1, e, b, ρ', e2, r⟩
    exact ⟨b, ρ', by unfold M.bind; rw [e]; exact e2, r⟩
theorem ev_of {o : Option α} : Ev (M.of o) ρ R ↔ ∃ a, o = some a ∧ R a ρ := by
  constructor
  · rintro ⟨a, ρ', e, r⟩
    unfold M.of at e
    cases o with
    | none => cases e
    | some b => cases e; exact ⟨a, rfl, r⟩
  · rintro ⟨a, rfl, r⟩
    exact ⟨a, ρ, rfl, r⟩
theorem ev_stuck : Ev (M.stuck : M α) ρ R ↔ False := ⟨fun ⟨_, _, e, _⟩ => (by cases e), fun h => h.elim⟩
end
section
variable {ρ : Sls} {i : Nat}
theorem ev_pk {R : O → Sls → Prop} : Ev (pk i) ρ R ↔ ∃ o, ρ[i]? = some (some o) ∧ R o ρ := by
  constructor
  · rintro ⟨a, ρ', e, r⟩
    obtain ⟨o, h1, h2, h3⟩ := pk_some e
    cases h2; subst h3
    exact ⟨a, h1, r⟩
  · rintro ⟨o, h, r⟩
    exact ⟨o, ρ, by unfold pk; rw [h], r⟩
theorem ev_rd {R : O → Sls → Prop} {d : D} (h : ρ[i]? = some (some (.val d))) : Ev (rd i) ρ R ↔ R (.val d) ρ := by
  have e : rd i ρ = some (.ok (.val d), ρ) := by unfold rd; rw [h]
  exact ⟨fun ⟨a, ρ', e2, r⟩ => by rw [e] at e2; cases e2; exact r, fun r => ⟨_, _, e, r⟩⟩
theorem ev_rdL {R : O → Sls → Prop} {os : List O} (h : ρ[i]? = some (some (.lst os))) : Ev (rd i) ρ R ↔ R (.val (.lst (fzs os))) (ρ.set i (some (.val (.lst (fzs os))))) := by
  have e : rd i ρ = some (.ok (.val (fz (.lst os))), ρ.set i (some (.val (fz (.lst os))))) := by unfold rd; rw [h]
  rw [fz] at e
  exact ⟨fun ⟨a, ρ', e2, r⟩ => by rw [e] at e2; cases e2; exact r, fun r => ⟨_, _, e, r⟩⟩
theorem ev_put {R : Unit → Sls → Prop} {o : O} : Ev (putS i o) ρ R ↔ i < ρ.length ∧ R () (ρ.set i (some o)) := by
  unfold Ev putS
  constructor
  · rintro ⟨a, ρ', e, r⟩
    split at e
    · rename_i h; cases e; exact ⟨h, r⟩
    · cases e
  · rintro ⟨h, r⟩
    exact ⟨(), _, by rw [if_pos h], r⟩
theorem ev_up {R : Unit → Sls → Prop} {f : O → Option O} : Ev (upM i f) ρ R ↔ ∃ o o', ρ[i]? = some (some o) ∧ f o = some o' ∧ R () (ρ.set i (some o')) := by
  constructor
  · rintro ⟨a, ρ', e, r⟩
    obtain ⟨o, o', h1, h2, h3, h4⟩ := upM_run e
    subst h4
    exact ⟨o, o', h1, h2, r⟩
  · rintro ⟨o, o', h1, h2, r⟩
    exact ⟨(), _, by unfold upM; rw [h1]; simp only; rw [h2], r⟩
theorem ev_wp {R : Unit → Sls → Prop} {own : List Nat} : Ev (wpM own) ρ R ↔ R () (wipeR ρ own) := ⟨fun ⟨a, ρ', e, r⟩ => by cases e; exact r, fun r => ⟨(), _, rfl, r⟩⟩
theorem ev_noX {α : Type} {f : M α} {R : α → Sls → Prop} : Ev (noX f) ρ R ↔ Ev f ρ R := by
  constructor
  · rintro ⟨a, ρ', e, r⟩
    unfold noX at e
    split at e
    · rename_i a' ρ2 q; cases e; exact ⟨a, ρ', q, r⟩
    · cases e
  · rintro ⟨a, ρ', e, r⟩
    exact ⟨a, ρ', by unfold noX; rw [e], r⟩
theorem ev_defM {n : Nat} {f : M Out} {R : O → Sls → Prop} : Ev (defM n f) ρ R ↔ Ev f (ρ ++ List.replicate (n - ρ.length) none) fun out ρ' => match out with
    | .rt o => R o ρ'
    | .nx => R (.val .non) ρ'
    | _ => False := by
  unfold Ev defM
  constructor
  · rintro ⟨a, ρ', e, r⟩
    split at e
    · rename_i o ρ2 q; cases e; exact ⟨_, _, q, r⟩
    · rename_i ρ2 q; cases e; exact ⟨_, _, q, r⟩
    · cases e
    · cases e
  · rintro ⟨out, ρ', e, r⟩
    cases out with
    | rt o => exact ⟨o, ρ', by rw [e], r⟩
    | nx => exact ⟨_, ρ', by rw [e], r⟩
    | bk => exact r.elim
    | ct => exact r.elim
theorem ev_call {ks : List (Option Nat)} {fs : M (List O)} {ms : List Bool} {sem : M O} {R : O → Sls → Prop} : Ev (callF ks fs ms sem) ρ R ↔ Ev fs ρ fun os ρ1 => ∃ c ρr, bld ks os ρ1 = some (c, ρr) ∧ Ev sem c fun o c' => R o (unbld ks (mask ms c') ρr) := by
  unfold callF
  refine Iff.trans (ev_bind (f := fs)) ?_
  constructor
  · rintro ⟨os, ρ1, e, a, ρ', e2, r⟩
    refine ⟨os, ρ1, e, ?_⟩
    cases q : bld ks os ρ1 with
    | none => simp [q] at e2
    | some p =>
      obtain ⟨c, ρr⟩ := p
      simp only [q] at e2
      cases q2 : sem c with
      | none => simp [q2] at e2
      | some z =>
        obtain ⟨rz, c'⟩ := z
        simp only [q2, Option.some.injEq, Prod.mk.injEq] at e2
        obtain ⟨rfl, rfl⟩ := e2
        exact ⟨c, ρr, q, a, c', q2, r⟩
  · rintro ⟨os, ρ1, e, c, ρr, q, a, c', q2, r⟩
    exact ⟨os, ρ1, e, a, _, by simp only [q, q2], r⟩
theorem ev_seqS {f k : M Out} {R : Out → Sls → Prop} : Ev (seqS f k) ρ R ↔ Ev f ρ fun out ρ1 => match out with
    | .nx => Ev k ρ1 R
    | o => R o ρ1 := by
  unfold seqS
  rw [ev_bind]
  constructor
  · exact fun h => h.mono fun out ρ1 r => by cases out <;> first | exact r | exact ev_pure.mp r
  · exact fun h => h.mono fun out ρ1 r => by cases out <;> first | exact r | exact ev_pure.mpr r
end
theorem ev_ite {α : Type} {fc : M Bool} {a b : M α} {ρ : Sls} {R : α → Sls → Prop} : Ev (iteM fc a b) ρ R ↔ Ev fc ρ fun c ρ1 => if c = true then Ev a ρ1 R else Ev b ρ1 R := by
  unfold iteM
  rw [ev_bind]
  constructor
  · exact fun h => h.mono fun c ρ1 r => by cases c <;> simpa using r
  · exact fun h => h.mono fun c ρ1 r => by cases c <;> simpa using r
/-- a loop by an invariant over what is still to come -/
theorem forL_inv {h : O → M Unit} {fb : M Out} {R : Out → Sls → Prop} (Iv : List D → Sls → Prop) (hs : ∀ d ds ρ, Iv (d :: ds) ρ → Ev (h (.val d)) ρ fun _ ρ1 => Ev fb ρ1 fun out ρ2 => match out with
    | .bk => R .nx ρ2
    | .rt o => R (.rt o) ρ2
    | _ => Iv ds ρ2) (he : ∀ ρ, Iv [] ρ → R .nx ρ) : ∀ (ds : List D) (ρ : Sls), Iv ds ρ → Ev (forL h fb ds) ρ R
  | [], ρ, i => by rw [forL, ev_pure]; exact he ρ i
  | d :: ds, ρ, i => by
    rw [forL, ev_bind]
    refine (hs d ds ρ i).mono fun _ ρ1 q => ?_
    rw [ev_bind]
    refine q.mono fun out ρ2 q2 => ?_
    cases out with
    | bk => exact ev_pure.mpr q2
    | rt o => exact ev_pure.mpr q2
    | nx => exact forL_inv Iv hs he ds ρ2 q2
    | ct => exact forL_inv Iv hs he ds ρ2 q2
theorem ev_if {α : Type} {p : Prop} [Decidable p] {a b : M α} {ρ : Sls} {R : α → Sls → Prop} : Ev (if p then a else b) ρ R ↔ if p then Ev a ρ R else Ev b ρ R := by
  by_cases h : p <;> simp [h]
theorem isi_1 {d : D} {c t : String} {b : Bool} (h1 : d.tyS = some t) (h2 : kitB t c = some b) : isiF [.val d, .val (.ty c)] = some (.val (.bl b)) := by
  unfold isiF
  have e : (O.val d).tyS = some t := h1
  simp only [e, h2, Option.map_some]
theorem kit_ii : kitB "int" "int" = some true := by decide +kernel
theorem kit_ib : kitB "int" "bool" = some false := by decide +kernel
theorem kit_tt : kitB "tuple" "tuple" = some true := by decide +kernel
theorem kit_ss : kitB "str" "str" = some true := by decide +kernel
theorem kit_lt : kitB "list" "tuple" = some false := by decide +kernel
theorem kit_ll : kitB "list" "list" = some true := by decide +kernel
theorem kit_it : kitB "int" "tuple" = some false := by decide +kernel
theorem kit_il : kitB "int" "list" = some false := by decide +kernel
theorem kit_tl : kitB "tuple" "list" = some false := by decide +kernel
theorem kit_tb : kitB "tuple" "bool" = some false := by decide +kernel
theorem kit_lb : kitB "list" "bool" = some false := by decide +kernel
theorem kit_nt : kitB "NoneType" "tuple" = some false := by decide +kernel
theorem kit_nl : kitB "NoneType" "list" = some false := by decide +kernel
theorem kit_nb : kitB "NoneType" "bool" = some false := by decide +kernel
theorem isi_ii (i : Int) : isiF [.val (.int i), .val (.ty "int")] = some (.val (.bl true)) := isi_1 rfl kit_ii
theorem isi_ib (i : Int) : isiF [.val (.int i), .val (.ty "bool")] = some (.val (.bl false)) := isi_1 rfl kit_ib
theorem isi_tt (ds : List D) : isiF [.val (.tup ds), .val (.ty "tuple")] = some (.val (.bl true)) := isi_1 rfl kit_tt
theorem isi_ss (x : Str) : isiF [.val (.str x), .val (.ty "str")] = some (.val (.bl true)) := isi_1 rfl kit_ss
section
variable {own own1 : List Nat} {h h1 : O → M Unit} {ft ft1 : M Bool} {fe fk fv : M O} {fi fi1 : M (List D)} {ρ ρ0 : Sls}
theorem ev_lcF {R : O → Sls → Prop} : Ev (lcF own fi h ft fe) ρ R ↔ Ev fi ρ fun ds ρ1 => ds.length ≤ lim ∧ Ev (lcL own h ft fe ds) (wipeR ρ1 own) fun os ρ2 => R (.lst os) ρ2 := by
  unfold lcF
  rw [ev_bind]
  constructor
  · refine fun q => q.mono fun ds ρ1 r => ?_
    rw [ev_if] at r
    split at r
    · rename_i hz
      rw [ev_noX, ev_bind, ev_wp, ev_bind] at r
      exact ⟨hz, r.mono fun os ρ2 r => ev_pure.mp r⟩
    · exact (ev_stuck.mp r).elim
  · refine fun q => q.mono fun ds ρ1 ⟨hz, r⟩ => ?_
    rw [ev_if, if_pos hz, ev_noX, ev_bind, ev_wp, ev_bind]
    exact r.mono fun os ρ2 r => ev_pure.mpr r
/-- items drawn one after another -/
theorem lcL_inv {R : List O → Sls → Prop} (Iv : List D → List O → Sls → Prop) (hs : ∀ d ds os ρ, Iv (d :: ds) os ρ → Ev (h (.val d)) ρ fun _ ρ1 => Ev ft ρ1 fun b ρ2 => if b = true then Ev fe ρ2 fun o ρ3 => Iv ds (os ++ [o]) (wipeR ρ3 own) else Iv ds os (wipeR ρ2 own))
    (he : ∀ os ρ, Iv [] os ρ → R os ρ) : ∀ (ds : List D) (os : List O) (ρ : Sls), Iv ds os ρ → Ev (lcL own h ft fe ds) ρ fun rest ρ' => R (os ++ rest) ρ'
  | [], os, ρ, i => by rw [lcL, ev_pure, List.append_nil]; exact he os ρ i
  | d :: ds, os, ρ, i => by
    rw [lcL, ev_bind]
    refine (hs d ds os ρ i).mono fun _ ρ1 q => ?_
    rw [ev_bind]
    refine q.mono fun b ρ2 q => ?_
    cases b with
    | true =>
      simp only [if_true] at q ⊢
      rw [ev_bind]
      refine q.mono fun o ρ3 q => ?_
      rw [ev_bind, ev_wp, ev_bind]
      refine (lcL_inv Iv hs he ds _ _ q).mono fun rest ρ' q => ?_
      rw [ev_pure]
      rw [List.append_assoc] at q
      exact q
    | false =>
      simp only [Bool.false_eq_true, if_false] at q ⊢
      rw [ev_bind, ev_wp]
      exact lcL_inv Iv hs he ds _ _ q
/-- items told by the source's items alone -/
theorem lcL_map {R : List O → Sls → Prop} {p : D → Bool} {e : D → O} {ds : List D} (hs : ∀ d ∈ ds, Ev (h (.val d)) ρ0 fun _ ρ1 => Ev ft ρ1 fun b ρ2 => b = p d ∧ (p d = true → Ev fe ρ2 fun o ρ3 => o = e d ∧ wipeR ρ3 own = ρ0) ∧ (p d = false → wipeR ρ2 own = ρ0))
    (hR : R ((ds.filter p).map e) ρ0) : Ev (lcL own h ft fe ds) ρ0 R := by
  refine (lcL_inv (own := own) (h := h) (ft := ft) (fe := fe) (R := fun os ρ => R os ρ) (fun rest os ρ => ρ = ρ0 ∧ (∀ d ∈ rest, d ∈ ds) ∧ os ++ (rest.filter p).map e = (ds.filter p).map e) ?_ ?_ ds [] ρ0 ⟨rfl, fun _ h => h, rfl⟩).mono fun rest ρ' q => by simpa using q
  · rintro d rest os ρ ⟨rfl, hm, ho⟩
    refine (hs d (hm d (by simp))).mono fun _ ρ1 q => q.mono fun b ρ2 ⟨e1, e2, e3⟩ => ?_
    subst e1
    cases hp : p d with
    | true =>
      simp only [if_true]
      refine (e2 hp).mono fun o ρ3 ⟨e4, e5⟩ => ⟨e5, fun x hx => hm x (by simp [hx]), ?_⟩
      subst e4
      rw [← ho, List.filter_cons_of_pos hp, List.map_cons, List.append_assoc]
      rfl
    | false =>
      simp only [Bool.false_eq_true, if_false]
      refine ⟨e3 hp, fun x hx => hm x (by simp [hx]), ?_⟩
      rw [← ho, List.filter_cons_of_neg (by simp [hp])]
  · rintro os ρ ⟨rfl, _, ho⟩
    simp only [List.filter_nil, List.map_nil, List.append_nil] at ho
    rw [ho]
    exact hR
theorem ev_lc2F {R : O → Sls → Prop} : Ev (lc2F own own1 fi h ft fi1 h1 ft1 fe) ρ R ↔ Ev fi ρ fun ds ρ1 => Ev (lc2L own own1 h ft fi1 h1 ft1 fe 0 ds) (wipeR ρ1 own) fun os ρ2 => R (.lst os) ρ2 := by
  unfold lc2F
  rw [ev_bind]
  constructor
  · refine fun q => q.mono fun ds ρ1 r => ?_
    rw [ev_noX, ev_bind, ev_wp, ev_bind] at r
    exact r.mono fun os ρ2 r => ev_pure.mp r
  · refine fun q => q.mono fun ds ρ1 r => ?_
    rw [ev_noX, ev_bind, ev_wp, ev_bind]
    exact r.mono fun os ρ2 r => ev_pure.mpr r
theorem lc2L_map {e : D → List O} : ∀ {ds : List D} {n m : Nat} {R : List O → Sls → Prop} (_ : ∀ d ∈ ds, Ev (h (.val d)) ρ0 fun _ ρ1 => Ev ft ρ1 fun b ρ2 => b = true ∧ Ev fi1 ρ2 fun ds1 ρ3 => ds1.length ≤ m ∧ Ev (lcL own1 h1 ft1 fe ds1) (wipeR ρ3 own1) fun os ρ4 => os = e d ∧ os.length ≤ m ∧ wipeR ρ4 own = ρ0)
    (_ : n + ds.length * m ≤ lim) (_ : R (ds.flatMap e) ρ0), Ev (lc2L own own1 h ft fi1 h1 ft1 fe n ds) ρ0 R
  | [], n, m, R, hs, hz, hR => by rw [lc2L, ev_pure]; exact hR
  | d :: ds, n, m, R, hs, hz, hR => by
    rw [List.length_cons, Nat.add_mul, Nat.one_mul] at hz
    rw [lc2L, ev_bind]
    refine (hs d (by simp)).mono fun _ ρ1 q => ?_
    rw [ev_bind]
    refine q.mono fun b ρ2 ⟨e1, q⟩ => ?_
    subst e1
    simp only [if_true]
    rw [ev_bind]
    refine q.mono fun ds1 ρ3 ⟨hl, q⟩ => ?_
    rw [ev_if, if_pos (by omega), ev_bind, ev_wp, ev_bind]
    refine q.mono fun os ρ4 ⟨e2, hl2, e3⟩ => ?_
    rw [ev_bind, ev_wp, e3, ev_bind]
    refine lc2L_map (m := m) (fun d' hd' => hs d' (by simp [hd'])) (by omega) ?_
    rw [ev_pure, e2]
    rw [List.flatMap_cons] at hR
    exact hR
end
/-! for the maths' stepping -/
theorem ev_id {α : Type} {f : M α} {ρ : Sls} {R : α → Sls → Prop} (h : Ev f ρ R) : Ev f ρ R := h
theorem ev_forK {h : O → M Unit} {fb : M Out} {ρ : Sls} {R : Out → Sls → Prop} {ds : List D} (q : Ev (forL h fb ds) ρ R) : Ev (forL h fb ds) ρ R := q
theorem if_ff {A B : Prop} (h : B) : if (false : Bool) = true then A else B := by simpa using h
theorem ev_ifN {α : Type} {ks : List Str} {q : Prop} [Decidable (ks.Nodup ∧ q)] {a b : M α} {ρ : Sls} {R : α → Sls → Prop} (h : ks.Nodup ∧ q) (h2 : Ev a ρ R) : Ev (if ks.Nodup ∧ q then a else b) ρ R := by rw [if_pos h]; exact h2
theorem ev_ifB {α : Type} {c : Bool} {a b : M α} {ρ : Sls} {R : α → Sls → Prop} : Ev (if c = true then a else b) ρ R ↔ if c = true then Ev a ρ R else Ev b ρ R := ev_if
theorem ite_id {c A B : Prop} [Decidable c] (h : if c then A else B) : if c then A else B := h
theorem ev_rdE {ρ : Sls} {i : Nat} {R : O → Sls → Prop} (q : ∃ d, ρ[i]? = some (some (.val d)) ∧ R (.val d) ρ) : Ev (rd i) ρ R := by
  obtain ⟨d, h, q⟩ := q
  exact (ev_rd h).mpr q
end PF

set_option Elab.async false
set_option linter.all false
set_option maxRecDepth 100000
set_option maxHeartbeats 2000000
namespace PF
open PySem PySem.Spec PyProof.Rows L2 LamX NdefX

/-! ### a lambda: made -/
/-- at f: a lambda with F's words and the body be -/
def LamO (f : Addr) (F : NF) (be : Expr) : HO := .ext fun h => ∃ (od : Option Addr) (sl : Array (Option Value)) (pm ctv : Value), h.get? f = some (⟨.type "function", od, .func (PySem.W.kla_fn F.name F.qual F.params be F.scope F.cl pm (.ref F.c) ctv), sl⟩ : Obj)
theorem lamO_at {P : Program} {w : World} {H : Hp} {h : Heap} {f : Addr} {F : NF} {be : Expr} (hok : HOk P w H h) (e : H f = some (LamO f F be)) : ∃ (od : Option Addr) (sl : Array (Option Value)) (pm ctv : Value), h.get? f = some (⟨.type "function", od, .func (PySem.W.kla_fn F.name F.qual F.params be F.scope F.cl pm (.ref F.c) ctv), sl⟩ : Obj) := (hok f _ e).1
/-- what the making does to the tables: nothing, or one more code object -/
def TabStep (H : Hp) (P c' : Addr) (q : Str) (H1 : Hp) : Prop := ∃ ps0 : Array Value, H P = some (.tbl ps0) ∧ ((H1 = H ∧ ∃ pos : Pos, codeAmong pos ps0.toList = some (.ref c')) ∨
  ∃ ps : Array Value, H c' = none ∧ H1 = upd (upd H P (.tbl ps)) c' (CodeO c' q) ∧ TriplesOk ps.toList ∧ ∀ (pos : Pos) (cv : Value), codeAmong pos ps.toList = some cv → cv = .ref c' ∨ codeAmong pos ps0.toList = some cv)
section
variable {X : Cx} {pins : List (Addr × Obj)} {σ : L2.St} {H : Hp} {s : Shared}
theorem inv_lam {F : NF} {be : Expr} {o : Obj} {t' : Nat} {pm ctv : Value} (I : Inv X pins σ H s) (ho : o = { cls := .type "function", data := .func (PySem.W.kla_fn F.name F.qual F.params be F.scope F.cl pm (.ref F.c) ctv) }) :
    Inv X pins σ (upd H s.heap.objs.size (LamO s.heap.objs.size F be)) { s with heap := s.heap.push o, toks := t' } := by
  subst ho
  have at_ : (s.heap.push ({ cls := .type "function", data := .func (PySem.W.kla_fn F.name F.qual F.params be F.scope F.cl pm (.ref F.c) ctv) } : Obj)).get? s.heap.objs.size = some ({ cls := .type "function", data := .func (PySem.W.kla_fn F.name F.qual F.params be F.scope F.cl pm (.ref F.c) ctv) } : Obj) := Heap.get?_push_size _ rfl
  exact I.laid (a := s.heap.objs.size) (fun b u z => Heap.get?_push_of_some _ z) (Nat.le_refl _) ⟨⟨_, _, pm, ctv, at_⟩, ⟨_, at_⟩, fun h1 h2 ⟨od, sl, m, t, z⟩ st => ⟨od, sl, m, t, st _ z⟩⟩
/-- the lambda's value is a new function object -/
def tLm (P : Addr) (q : Str) (mk : Addr → NF) (be : Expr) : TE := fun _ H Q =>
  (∃ ps : Array Value, H P = some (.tbl ps) ∧ TriplesOk ps.toList ∧ ∀ (pos : Pos) (cv : Value), codeAmong pos ps.toList = some cv → ∃ c, cv = .ref c ∧ H c = some (CodeO c q)) ∧
    ∀ f c' H1, TabStep H P c' q H1 → H1 f = none → Q (.ref f) (upd H1 f (LamO f (mk c') be))
theorem pe_lam {c P : Addr} {params : Arguments} {body : Expr} {scope : Scope} {pos : Pos} (TB : TabB X.base X.mg c P) (hcode : X.env.code = .ref c) (hdef : defaultsOf params X.env = ([], []))
    (hfree : X.Ok → ∀ y ∈ scope.names, y.2 = .free → ∃ c, X.env.cells.lookup y.1 = some c) :
    PE X (.Lambda params body scope pos) (tLm P (X.env.qual ++ "<lambda>") (fun c' => ⟨"<lambda>", X.env.qual ++ "<lambda>", params, [], scope, cloFrom X.env.cells scope.names [], c'⟩) body) := by
  refine ⟨fun pins s σ H Q I h => ?_⟩
  obtain ⟨⟨ps, hP, ht, ha⟩, hQ⟩ := h
  refine PySem.W.kla_eval hdef ?_
  have hfr := hfree I.ok
  have hB : s.heap.BuiltinsAt X.mg P := TB.bm.keeps I.bk
  have gP : s.heap.get? P = some { cls := .none, data := .fields ps } := I.hok P _ hP
  have hG : s.heap.Ns mainGlobals X.mg := I.mod.glob.keeps I.bk
  have hC : PySem.W.CodeHd s.heap c P := TB.code.keeps I.bk
  cases hc : codeAmong pos ps.toList with
  | none =>
    refine PySem.W.kla_makeFunction (mg := X.mg) (closure_ok hfr) I.ok.glob hG hcode hC gP ht hc TB.gP hB fun c' ctv h' tk hx hge hlt hrec htb => ?_
    obtain ⟨c2, oc, vs, t, e2, hoc, hd, hv⟩ := hrec
    cases e2
    have nC : H c' = none := I.hok.fresh hge
    have I1 := inv_table (t' := tk) (more := #[rawInt pos.line, rawInt pos.col, .ref c']) (h' := h') I hP (fun b o nb z => hx b o nb z) htb hge ⟨oc, vs, t, hoc, hd, hv⟩
    have I2 := inv_lam (F := ⟨"<lambda>", X.env.qual ++ "<lambda>", params, [], scope, cloFrom X.env.cells scope.names [], c'⟩) (be := body) (t' := tk) (pm := (X.mg "__name__").getD .none) (ctv := ctv) I1 rfl
    have eL : (ps ++ #[rawInt pos.line, rawInt pos.col, .ref c']).toList = ps.toList ++ [rawInt pos.line, rawInt pos.col, .ref c'] := by simp
    refine ⟨.ref _, _, I2, rfl, hQ _ c' _ ⟨ps, hP, .inr ⟨_, nC, rfl, by rw [eL]; exact PySem.TriplesOk_snoc _ _ _ _ ht, fun p' cv hcv => ?_⟩⟩ (I1.hok.fresh (Nat.le_refl _))⟩
    rw [eL] at hcv
    exact (among_app _ ht hcv).symm
  | some cv =>
    obtain ⟨c', e, hco⟩ := ha pos cv hc
    subst e
    refine PySem.W.kla_makeFunctionHit (mg := X.mg) (closure_ok hfr) I.ok.glob hG hcode hC gP ht hc hB fun ctv h' tk hx hsz => ?_
    have I1 : Inv X pins σ H { s with heap := h', toks := tk } := I.kept hx
    have I2 := inv_lam (F := ⟨"<lambda>", X.env.qual ++ "<lambda>", params, [], scope, cloFrom X.env.cells scope.names [], c'⟩) (be := body) (t' := tk) (pm := (X.mg "__name__").getD .none) (ctv := ctv) I1 rfl
    exact ⟨.ref _, _, I2, rfl, hQ _ c' H ⟨ps, hP, .inl ⟨rfl, pos, hc⟩⟩ (I1.hok.fresh (Nat.le_refl _))⟩
end
/-! ### over slots -/
section
variable {g : Gv} {H F Gx : Hp} {σ : L2.St} {ρ : Sls} {L : List (V × O)}
theorem upd_comm {a b : Addr} {u v : HO} (h : a ≠ b) : upd (upd H a u) b v = upd (upd H b v) a u := by
  funext c
  unfold upd
  by_cases h1 : c = b
  · subst h1
    rw [if_pos rfl, if_neg (Ne.symm h), if_pos rfl]
  · by_cases h2 : c = a
    · subst h2
      rw [if_neg h1, if_pos rfl, if_pos rfl]
    · rw [if_neg h1, if_neg h2, if_neg h2, if_neg h1]
theorem Good.tab {B : List (V × O)} (h : Good g H F Gx B) {p : Addr × Str} (hp : p ∈ g.ca.tb) {ps : Array Value} (ht : TriplesOk ps.toList) (hc : ∀ p' ∈ g.ca.tb, p'.1 = p.1 → ∀ (pos : Pos) (cv : Value), codeAmong pos ps.toList = some cv → ∃ c, cv = .ref c ∧ F c = some (CodeO c p'.2)) :
    Good g (upd H p.1 (.tbl ps)) F Gx B := by
  obtain ⟨S, hT, hF, hG, hFG, hS, hL⟩ := h.ex
  obtain ⟨t1, t2, t3, ps0, t4, t5, t6⟩ := hT p hp
  have nS : ∀ a, S a → a ≠ p.1 := fun a h e => t3 (e ▸ h)
  refine ⟨S, fun p' hp' => ?_, fun a o e => ?_, fun a o e => ?_, hFG, fun a h => ?_, RepL.frame g (Le.refl F) B S S (fun _ h => h) (fun a h => upd_ne (nS a h)) hL⟩
  · obtain ⟨u1, u2, u3, qs, u4, u5, u6⟩ := hT p' hp'
    by_cases e : p'.1 = p.1
    · exact ⟨u1, u2, u3, ps, by rw [e]; exact upd_same, ht, hc p' hp' e⟩
    · exact ⟨u1, u2, u3, qs, by rw [upd_ne e]; exact u4, u5, u6⟩
  · rw [upd_ne (fun q => by subst q; rw [t1] at e; cases e)]; exact hF a o e
  · rw [upd_ne (fun q => by subst q; rw [t2] at e; cases e)]; exact hG a o e
  · rw [upd_ne (nS a h)]; exact hS a h
theorem StG.tabs (st : StG g H F Gx σ ρ L) {p : Addr × Str} (hp : p ∈ g.ca.tb) : ∃ ps : Array Value, H p.1 = some (.tbl ps) ∧ TriplesOk ps.toList ∧ ∀ (pos : Pos) (cv : Value), codeAmong pos ps.toList = some cv → ∃ c, cv = .ref c ∧ H c = some (CodeO c p.2) := by
  obtain ⟨S, hT, hF, _⟩ := st.gd.ex
  obtain ⟨_, _, _, ps, t4, t5, t6⟩ := hT p hp
  refine ⟨ps, t4, t5, fun pos cv hc => ?_⟩
  obtain ⟨c, e1, e2⟩ := t6 pos cv hc
  exact ⟨c, e1, hF _ _ e2⟩
/-- where every code object that H knows under these names is frozen -/
theorem StG.lam (st : StG g H F Gx σ ρ L) {p : Addr × Str} (hp : p ∈ g.ca.tb) (hu : ∀ p' ∈ g.ca.tb, p'.1 = p.1 → p' = p) {c' f : Addr} {H1 : Hp} {u : HO} (hs : TabStep H p.1 c' p.2 H1) (hf : H1 f = none) :
    ∃ F1, Le F F1 ∧ F1 f = some u ∧ F1 c' = some (CodeO c' p.2) ∧ StG g (upd H1 f u) F1 Gx σ ρ L := by
  obtain ⟨S, hT, _⟩ := st.gd.ex
  obtain ⟨t1, t2, t3, ps0, t4, t5, t6⟩ := hT p hp
  obtain ⟨ps1, e0, hs⟩ := hs
  rw [t4] at e0; cases e0
  rcases hs with ⟨rfl, pos, hc⟩ | ⟨ps, nC, rfl, ht, ha⟩
  · obtain ⟨le, g2⟩ := st.gd.newF (u := u) hf
    obtain ⟨c, e1, e2⟩ := t6 pos _ hc
    cases e1
    exact ⟨_, le, upd_same, le _ _ e2, st.wf, st.len, g2⟩
  · have ne : p.1 ≠ c' := fun z => by rw [z, nC] at t4; cases t4
    obtain ⟨le1, g1⟩ := st.gd.newF (u := CodeO c' p.2) nC
    have g2 := Good.tab g1 hp ht fun p' hp' e pos cv hc => by
      rw [hu p' hp' e]
      rcases ha pos cv hc with rfl | hc2
      · exact ⟨c', rfl, upd_same⟩
      · obtain ⟨c, e1, e2⟩ := t6 pos cv hc2
        exact ⟨c, e1, le1 _ _ e2⟩
    rw [upd_comm (Ne.symm ne)] at g2
    obtain ⟨le2, g3⟩ := g2.newF (u := u) hf
    exact ⟨_, le1.trans le2, upd_same, le2 _ _ upd_same, st.wf, st.len, g3⟩
end
end PF

set_option Elab.async false
set_option linter.all false
set_option maxRecDepth 100000
set_option maxHeartbeats 2000000
namespace PF
open PySem PySem.Spec PyProof.Rows L2 LamX NdefX

/-! ### a lambda: called -/
section
variable {CX : CXT} {P : Program} {w : World} {K : PySem.W.Frag} {mg : Str → Option Value} {base : Heap} {N ps fr : List Str} {F : NF} {be : Expr} {f : Addr} {k : Nat} {A : Around} {outer : List Env} {s : Shared} {H : Hp} {E : XK} {us : List Value} {vs : List V} {ws : List (Option V)} {Q : VK} {tb : TE}
theorem run_lam (S : NScope N ps fr F.scope) (hb : ∀ (pm ctv : Value) (us : List Value), us.length = ps.length → bindArgs (PySem.W.kla_fn F.name F.qual F.params be F.scope F.cl pm (.ref F.c) ctv) ⟨us, []⟩ = pure (ps.zip us)) (hr : Room (k + 1) A)
    (e0 : Env0 P w K mg base A outer s H) (hf : H f = some (LamO f F be)) (hc : H F.c = some (CodeO F.c F.qual)) (C : CellsAt F.cl fr ws s.heap H) (r : Vals vs us) (hl : vs.length = ps.length)
    (hbody : Room k (A.deeper (envF F f s.heap.objs.size)) → PE (ncx CX P w K mg base N F f A outer s H E) be tb) (hq : tb (startF N vs ws) H Q) : codeAny (model P w) A (.call (.ref f) ⟨us, []⟩) (CR CX outer P w H s Q E) s := by
  have lim : s.heap.NoLimit := e0.mod.nolimit.keeps fun b o z => (e0.bs b o z).1
  obtain ⟨od, sl, pm, ctv, ho⟩ := lamO_at e0.hok hf
  refine PySem.W.kla_callFunE hr.depth ho rfl S.co S.gen rfl (codeO_at e0.hok hc) ?_
  rw [hb pm ctv us (by rw [← r.length]; exact hl)]
  refine wpAny_pure (wpAny_newFunctionEnv S.nocell (fun ⟨n, _⟩ hy => S.par n (List.of_mem_zip hy).1) (fun h₁ hns hsb => ⟨lim.fresh _ hsb, ?_⟩) S.kind)
  show codeAny _ _ (.expr be (envF F f s.heap.objs.size)) _ _
  have kp : ∀ b o, s.heap.get? b = some o → h₁.get? b = some o := fun b o z => hsb.extBut b o (Nat.ne_of_lt (Heap.lt_size z)) (Heap.get?_push_of_some _ z)
  have J : Inv (ncx CX P w K mg base N F f A outer s H E) [] (startF N vs ws) H { s with heap := h₁, toks := s.toks + (ps.zip us).length } := inv_startN S hr.hd e0 hl r C hns kp
  refine PySem.W.kla_codeExpr (wpAny_mono ((hbody (hr.deeper _)).run [] _ _ H Q J hq) (fun v s' z => ?_) fun e s' z => z)
  obtain ⟨w', H', J', rv, q⟩ := z
  exact ⟨w', H', J'.os, J'.bare, J'.base, J'.hok, rv, q⟩
end
/-! ### over slots -/
def capS (ρ : Sls) : List Nat → Option (List D)
  | [] => some []
  | j :: js => match ρ[j]? with
    | some (some (.val w)) => (capS ρ js).map (w :: ·)
    | _ => none
section
variable {g : Gv} {H F Gx : Hp} {σ : L2.St} {ρ : Sls} {L : List (V × O)}
theorem cap_ok (st : StG g H F Gx σ ρ L) : ∀ {js : List Nat} {ws : List D}, capS ρ js = some ws → ∃ vs : List V, js.map (slotAt σ) = vs.map some ∧ RepVs g F ws vs
  | [], ws, e => by
    rw [capS] at e; cases e
    exact ⟨[], rfl, by rw [RepVs]⟩
  | j :: js, ws, e => by
    rw [capS] at e
    split at e
    · rename_i w hj
      obtain ⟨ws', e1, rfl⟩ := Option.map_eq_some_iff.mp e
      obtain ⟨vs, h1, h2⟩ := cap_ok st e1
      obtain ⟨v, S, hv, r⟩ := st.peek hj
      rw [RepO] at r
      refine ⟨v :: vs, ?_, by rw [RepVs]; exact ⟨v, vs, rfl, r, h2⟩⟩
      rw [List.map_cons, List.map_cons, h1, slotAt_of hv]
    · cases e
theorem Good.vals {B : List (V × O)} (h : Good g H F Gx B) : ∀ {ds : List D} {vs : List V}, RepVs g F ds vs → Good g H F Gx (slL (vs.map some) (ds.map fun d => some (.val d)) ++ B)
  | [], vs, r => by
    rw [RepVs] at r; subst r
    exact h
  | d :: ds, vs, r => by
    rw [RepVs] at r
    obtain ⟨v, w, rfl, r1, r2⟩ := r
    exact (Good.vals h r2).ofVal r1
theorem vals_len : ∀ {ds : List D} {vs : List V}, RepVs g F ds vs → vs.length = ds.length
  | [], vs, r => by rw [RepVs] at r; subst r; rfl
  | d :: ds, vs, r => by
    rw [RepVs] at r
    obtain ⟨v, w, rfl, r1, r2⟩ := r
    rw [List.length_cons, List.length_cons, vals_len r2]
end
/-- a lambda of the running frame, by what its body computes -/
structure LamK (X : Cx) (ca : Ca) (k : Nat) (mk : Addr → NF) (be : Expr) (x : Str) (fr : List Str) (js : List Nat) (fb : M O) : Prop where
  S : ∀ c', NScope (x :: fr) [x] fr (mk c').scope
  hb : ∀ (c' : Addr) (pm ctv u : Value), bindArgs (PySem.W.kla_fn (mk c').name (mk c').qual (mk c').params be (mk c').scope (mk c').cl pm (.ref (mk c').c) ctv) ⟨[u], []⟩ = pure [(x, u)]
  cap : X.Ok → ∀ c', Caps X (mk c').cl fr js
  cc : ∀ c', (mk c').c = c'
  body : ∀ (c' f : Addr) (A : Around) (outer : List Env) (s : Shared) (H : Hp), Room k (A.deeper (envF (mk c') f s.heap.objs.size)) → PE (ncx (L2.CX X.prog X.w) X.prog X.w X.K X.mg X.base (x :: fr) (mk c') f A outer s H (fun _ _ _ => False)) be (T (gv X ca) W0 fb)
section
variable {X : Cx} {ca : Ca} {k : Nat} {mk : Addr → NF} {be : Expr} {x : Str} {fr : List Str} {js : List Nat} {fb : M O} {pins : List (Addr × Obj)} {σ : L2.St} {H F Gx : Hp} {ρ ρ2 : Sls} {s : Shared} {A : Around} {E : Value → Shared → Prop}
theorem env0_of {B : Around} (e : Env0 X.prog X.w X.K X.mg X.base X.A X.stack s H) (h : B.frames = X.A.frames) : Env0 X.prog X.w X.K X.mg X.base B X.stack s H := ⟨h.trans e.frames, e.mod, e.bs, e.bsz, e.funs, e.frf, e.hok, e.bare⟩
theorem lam_call (LK : LamK X ca k mk be x fr js fb) (hr : Room (k + 1) A) (hA : A.frames = X.A.frames) (I : Inv X pins σ H s) (st : StG (gv X ca) H F Gx σ ρ []) {f c' : Addr} (hf : F f = some (LamO f (mk c') be)) (hc : F c' = some (CodeO c' (mk c').qual))
    {ws : List D} (hcap : capS ρ js = some ws) {d kd : D} {v : V} {u : Value} (rd : RepV (gv X ca) F d v) (rv : RelV v u) (hk : fb (some (.val d) :: ws.map fun w => some (.val w)) = some (.ok (.val kd), ρ2)) {Q : Value → Shared → Prop}
    (hQ : ∀ ku s' H' F' kv, Inv X pins σ H' s' → Le F F' → StG (gv X ca) H' F' Gx σ ρ [] → RelV kv ku → RepV (gv X ca) F' kd kv → Q ku s') : wpAny (model X.prog X.w) A (call (.ref f) [u]) Q E s := by
  obtain ⟨vs, hvs, rvs⟩ := cap_ok st hcap
  have lenc : js.length = fr.length := by
    have q := congrArg List.length (LK.cap I.ok c').at_
    simpa using q
  have lvs : vs.length = fr.length := by
    have q := congrArg List.length hvs
    rw [List.length_map, List.length_map] at q
    omega
  obtain ⟨Gx', gA, back⟩ := Good.aside (A := []) (B := slL σ ρ) st.gd
  have rds : RepVs (gv X ca) F (d :: ws) (v :: vs) := by rw [RepVs]; exact ⟨v, vs, rfl, rd, rvs⟩
  have gB := Good.vals gA rds
  rw [List.append_nil] at gB
  have hsf : startF (x :: fr) [v] (js.map (slotAt σ)) = (v :: vs).map some := by
    unfold startF
    rw [hvs]
    simp [lvs]
  have st2 : StG (gv X ca) H F Gx' ((v :: vs).map some) ((d :: ws).map fun d => some (.val d)) [] := by
    refine ⟨fun i o e => ?_, by have := vals_len rds; simpa using this, gB⟩
    have hi : i < ((d :: ws).map fun d => some (O.val d)).length := (List.getElem?_eq_some_iff.mp e).1
    have hi2 : i < (v :: vs).length := by have := vals_len rds; simp at hi this ⊢; omega
    exact ⟨(v :: vs)[i], by rw [List.getElem?_map, List.getElem?_eq_getElem hi2]; rfl⟩
  have CA : CellsAt (mk c').cl fr (js.map (slotAt σ)) s.heap H := cells_of I (LK.cap I.ok c')
  have rc := run_lam (CX := L2.CX X.prog X.w) (P := X.prog) (w := X.w) (K := X.K) (mg := X.mg) (base := X.base) (ps := [x]) (us := [u]) (vs := [v]) (E := fun _ _ _ => False)
    (Q := fun w H' => ∃ F', Le F F' ∧ StG (gv X ca) H' F' Gx σ ρ [] ∧ RepV (gv X ca) F' kd w) (LK.S c') (fun pm ctv us hl => match us, hl with | [u], _ => LK.hb c' pm ctv u) hr (env0_of I.env0 hA) (st.le _ _ hf) (by rw [LK.cc]; exact st.le _ _ hc) CA (.cons rv .nil) rfl (LK.body c' f A X.stack s H) (by
      rw [hsf]
      refine ⟨F, Gx', _, st2, ?_⟩
      unfold Rn
      rw [show ((d :: ws).map fun d => some (O.val d)) = some (.val d) :: ws.map fun w => some (.val w) from rfl, hk]
      intro H' F' le w st3
      have gC : Good (gv X ca) H' F' Gx' [] := Good.dropL (A := [(w, O.val kd)] ++ slL _ ρ2) (by simpa using st3.gd)
      exact ⟨F', le, ⟨st.wf, st.len, back H' F' [] le gC⟩, Good.val (B := slL _ _) st3.gd⟩)
  refine wpAny_call (codeAny_mono rc fun r s' hq => ?_)
  cases r with
  | error e =>
    obtain ⟨_, _, _, _, _, _, _, _, _, _, _, _, z⟩ := hq
    exact z.elim
  | ok fl =>
    cases fl with
    | ret ku =>
      obtain ⟨kv, H', I', rk, F', le, st', rr⟩ := I.after hq
      exact hQ ku s' H' F' kv I' le st' rk rr
    | next => exact False.elim hq
    | brk => exact False.elim hq
    | cont => exact False.elim hq
end
end PF

set_option Elab.async false
set_option linter.all false
set_option maxRecDepth 100000
set_option maxHeartbeats 2000000
namespace PF
open PySem PySem.Spec PyProof.Rows L2 LamX NdefX

/-! ### min(xs, key=lambda ..) -/
/-- (item, key): the first least -/
def bestK (p : D × D) (rest : List (D × D)) : D × D := rest.foldl (fun b q => if PySem.W.dataLt (toPy q.2) (toPy b.2) = true then q else b) p
section
variable {X : Cx} {ca : Ca} {pins : List (Addr × Obj)} {σ : L2.St} {F0 Gx : Hp} {ρ : Sls} {l I S : Addr} {ds : List D} {s : Shared}
/-- a place that nobody tracks, that no frame has -/
def Lone (X : Cx) (pins : List (Addr × Obj)) (b : Addr) : Prop := b ≠ X.env.locals ∧ b ∉ X.fs ∧ (b ∈ X.ex ∨ X.s_0.heap.objs.size ≤ b) ∧ (∀ x c, X.env.cells.lookup x = some c → c ≠ b) ∧ ∀ p ∈ X.pn ++ pins, p.1 ≠ b
theorem Lone.fp {H : Hp} {b : Addr} (h : Lone X pins b) (n : H b = none) : FpOk X pins H b := ⟨n, h⟩
/-- where the search stands: j items drawn, the best is b -/
structure MinSt (X : Cx) (ca : Ca) (pins : List (Addr × Obj)) (σ : L2.St) (ρ : Sls) (F0 Gx : Hp) (l I S : Addr) (j : Nat) (b : D × D) (s : Shared) : Prop where
  ex : ∃ H F, Inv X pins σ H s ∧ StG (gv X ca) H F Gx σ ρ [] ∧ Le F0 F ∧ H I = none ∧ H S = none ∧ s.heap.IsListIter I l j ∧ ∃ vb kb c, s.heap.get? S = some { cls := .type "list", dict := none, data := .seq #[vb, kb] c, slots := #[] } ∧
    (∃ v, RelV v vb ∧ RepV (gv X ca) F b.1 v) ∧ ∃ v, RelV v kb ∧ RepV (gv X ca) F b.2 v
theorem reads_of {H F : Hp} (I : Inv X pins σ H s) (le : Le F H) {d : D} {v : V} {u : Value} (h : okD 16 d = true) (r : RepV (gv X ca) F d v) (q : RelV v u) : ∃ as, Reads s.heap u (toPy d) as := Dp.reads I _ v _ (dp_of 16 d v le h r) q
theorem iter_keep {h h' : Heap} {j : Nat} (it : h.IsListIter I l j) (k : ∀ o, h.get? I = some o → h'.get? I = some o) : h'.IsListIter I l j := by
  obtain ⟨o, h1, h2, h3⟩ := it
  exact ⟨o, k o h1, h2, h3⟩
end
section
variable {X : Cx} {ca : Ca} {k : Nat} {mk : Addr → NF} {be : Expr} {x : Str} {fr : List Str} {js : List Nat} {fb : M O} {pins : List (Addr × Obj)} {σ : L2.St} {F0 Gx : Hp} {ρ : Sls} {l I S f c' : Addr} {vs : List V} {ds : List D} {ws : List D}
theorem plain_list {h : Heap} {a : Addr} {its : Array Value} (p : PlainL h a its) : h.IsList a its := by
  obtain ⟨o, n, h1, h2, _, h4⟩ := p
  exact ⟨o, h1, h2, n, h4⟩
theorem min_next (hl : F0 l = some (.lst vs)) (rv : RepVs (gv X ca) F0 ds vs) (lI : Lone X pins I) (ne : I ≠ S) {H F : Hp} {s : Shared} {j : Nat} {d : D} {oS : Obj} (J : Inv X pins σ H s) (st : StG (gv X ca) H F Gx σ ρ []) (le : Le F0 F) (nI : H I = none)
    (it : s.heap.IsListIter I l j) (hS : s.heap.get? S = some oS) (hd : ds[j]? = some d) {Q : Option Value → Shared → Prop} {E : Value → Shared → Prop}
    (hQ : ∀ u s1, Inv X pins σ H s1 → s1.heap.IsListIter I l (j + 1) → s1.heap.get? S = some oS → (∃ w, RelV w u ∧ RepV (gv X ca) F d w) → Q (some u) s1) : wpAny (model X.prog X.w) X.A.in1 (pyNext (.ref I)) Q E s := by
  obtain ⟨its, hv, pl, _⟩ := J.list (SqL.of (st.le _ _ (le _ _ hl)))
  obtain ⟨w, hw, rw⟩ := rv.get hd
  obtain ⟨u, hu, ru⟩ := hv.get hw
  refine wpAny_pyNext_list_item it (plain_list pl) (i := j) (x := u) (by simpa using hu) fun h' it' sb => ?_
  have kp : ∀ b o, b ≠ I → s.heap.get? b = some o → h'.get? b = some o := fun b o nb z => by rw [sb.2 b nb]; exact z
  exact hQ u _ (J.turned (t' := s.toks) kp nI lI.1 lI.2.2.1 lI.2.2.2.1 lI.2.2.2.2) it' (kp S _ (Ne.symm ne) hS) ⟨w, ru, RepV.mono (gv X ca) le _ _ rw⟩
theorem min_end (hl : F0 l = some (.lst vs)) (rv : RepVs (gv X ca) F0 ds vs) (lI : Lone X pins I) (ne : I ≠ S) {H F : Hp} {s : Shared} {j : Nat} {oS : Obj} (hh : X.A.handled = none) (J : Inv X pins σ H s) (st : StG (gv X ca) H F Gx σ ρ []) (le : Le F0 F) (nI : H I = none)
    (it : s.heap.IsListIter I l j) (hS : s.heap.get? S = some oS) (hd : ds.length ≤ j) {Q : Option Value → Shared → Prop} {E : Value → Shared → Prop}
    (hQ : ∀ s1, Inv X pins σ H s1 → s1.heap.get? S = some oS → Q none s1) : wpAny (model X.prog X.w) X.A.in1 (pyNext (.ref I)) Q E s := by
  obtain ⟨its, hv, pl, _⟩ := J.list (SqL.of (st.le _ _ (le _ _ hl)))
  have hlen : its.length ≤ j := by rw [← hv.length, rv.length]; exact hd
  refine wpAny_pyNext_list_end hh it (plain_list pl) (by simpa using hlen) fun h' sb => ?_
  have kp : ∀ b o, b ≠ I → s.heap.get? b = some o → h'.get? b = some o := fun b o nb z => sb b o nb z
  exact hQ _ (J.turned (t' := s.toks) kp nI lI.1 lI.2.2.1 lI.2.2.2.1 lI.2.2.2.2) (kp S _ (Ne.symm ne) hS)
theorem min_key (LK : LamK X ca k mk be x fr js fb) (hr : Room (k + 2) X.A) (lI : Lone X pins I) (lS : Lone X pins S) (hf : F0 f = some (LamO f (mk c') be)) (hc : F0 c' = some (CodeO c' (mk c').qual)) (hcap : capS ρ js = some ws)
    {H F : Hp} {s : Shared} {j : Nat} {d kd : D} {u : Value} {oS : Obj} (J : Inv X pins σ H s) (st : StG (gv X ca) H F Gx σ ρ []) (le : Le F0 F) (nI : H I = none) (nS : H S = none) (it : s.heap.IsListIter I l j) (hS : s.heap.get? S = some oS) (cS : ∀ v, oS.data ≠ .cell v)
    (hu : ∃ w, RelV w u ∧ RepV (gv X ca) F d w) (hk : ∃ ρ2, fb (some (.val d) :: ws.map fun w => some (.val w)) = some (.ok (.val kd), ρ2)) {Q : Value → Shared → Prop} {E : Value → Shared → Prop}
    (hQ : ∀ ku s2 H2 F2, Inv X pins σ H2 s2 → StG (gv X ca) H2 F2 Gx σ ρ [] → Le F F2 → H2 I = none → H2 S = none → s2.heap.IsListIter I l j → s2.heap.get? S = some oS → (∃ w, RelV w ku ∧ RepV (gv X ca) F2 kd w) → Q ku s2) :
    wpAny (model X.prog X.w) X.A.in1 (call (.ref f) [u]) Q E s := by
  obtain ⟨oI, hI, ci, di⟩ := it
  obtain ⟨w, ru, rw⟩ := hu
  obtain ⟨ρ2, hk⟩ := hk
  have J2 : Inv X (pins ++ [(I, oI), (S, oS)]) σ H s := J.pins_of fun p hp => by
    rcases List.mem_append.mp hp with z | z
    · exact J.pin p (List.mem_append_right _ z)
    · rcases List.mem_cons.mp z with rfl | z
      · exact ⟨hI, nI, lI.1, lI.2.1, fun v q => by rw [di] at q; cases q⟩
      · rw [List.mem_singleton.mp z]
        exact ⟨hS, nS, lS.1, lS.2.1, cS⟩
  refine lam_call LK hr.in1 rfl J2 st (le _ _ hf) (le _ _ hc) hcap rw ru hk fun ku s2 H2 F2 kv J3 le2 st2 rk rkv => ?_
  have pI := J3.pin (I, oI) (by simp)
  have pS := J3.pin (S, oS) (by simp)
  exact hQ ku s2 H2 F2 (J3.unpinned) st2 le2 pI.2.1 pS.2.1 ⟨oI, pI.1, ci, di⟩ pS.1 ⟨kv, rk, rkv⟩
/-- S written -/
theorem min_wr {H F : Hp} {s : Shared} {oS : Obj} {xs ys : Array Value} {n : Nat} (J : Inv X pins σ H s) (lS : Lone X pins S) (nS : H S = none) : Inv X pins σ H { s with heap := s.heap.update S (Obj.mapSeq fun _ => ys), toks := s.toks } :=
  J.turned (t' := s.toks) (fun b o nb z => (Heap.get?_update_other _ _ (Ne.symm nb)).trans z) nS lS.1 lS.2.2.1 lS.2.2.2.1 lS.2.2.2.2
theorem alike_ne {a b : PyData} (h : a ≠ .none) : a ≠ .none := h
/-- the keys may be put in order -/
def keysOk (ks : List D) : Bool := ks.all (okD 16) && ks.all (fun x => ks.all fun y => PySem.W.alike (toPy x) (toPy y)) && ks.all (fun x => match x with | .non => false | _ => true)
theorem keysOk_is {ks : List D} (h : keysOk ks = true) : (∀ d ∈ ks, okD 16 d = true) ∧ (∀ a ∈ ks, ∀ b ∈ ks, PySem.W.alike (toPy a) (toPy b) = true) ∧ ∀ a ∈ ks, toPy a ≠ .none := by
  unfold keysOk at h
  rw [Bool.and_eq_true, Bool.and_eq_true, List.all_eq_true, List.all_eq_true, List.all_eq_true] at h
  obtain ⟨⟨h1, h2⟩, h3⟩ := h
  refine ⟨h1, fun a ha b hb => List.all_eq_true.mp (h2 a ha) b hb, fun a ha => ?_⟩
  have q := h3 a ha
  have q1 := h1 a ha
  cases a <;> first
    | (simp [toPy]; done)
    | (cases q; done)
    | (simp [okD] at q1; done)
/-- the turns behind the first -/
theorem min_loop (LK : LamK X ca k mk be x fr js fb) (hr : Room (k + 2) X.A) (hu : X.A.units + 65 < cLine) (hh : X.A.handled = none) (lI : Lone X pins I) (lS : Lone X pins S) (ne : I ≠ S) (hf : F0 f = some (LamO f (mk c') be)) (hc : F0 c' = some (CodeO c' (mk c').qual))
    (hl : F0 l = some (.lst vs)) (rv : RepVs (gv X ca) F0 ds vs) (hcap : capS ρ js = some ws) {ks : List D} (hk : ∀ (j : Nat) (d kd : D), ds[j]? = some d → ks[j]? = some kd → ∃ ρ2, fb (some (.val d) :: ws.map fun w => some (.val w)) = some (.ok (.val kd), ρ2)) (hks : keysOk ks = true) (hlen : ks.length = ds.length)
    {R : Result → Shared → Prop} : ∀ (rest : List (D × D)) (j : Nat) (b : D × D) (s : Shared), (ds.zip ks).drop j = rest → b.2 ∈ ks → MinSt X ca pins σ ρ F0 Gx l I S j b s →
      (∀ u s2 H2 F2, Inv X pins σ H2 s2 → Le F0 F2 → StG (gv X ca) H2 F2 Gx σ ρ [] → (∃ w, RelV w u ∧ RepV (gv X ca) F2 (bestK b rest).1 w) → R (.ok (.ret u)) s2) →
      codeAny (model X.prog X.w) X.A (.builtin "min.loop" ⟨[.ref I, .ref f, .ref S], []⟩) R s
  | rest, j, b, s, e, hb, m, hR => by
    have hname : (toString "min" ++ toString ".loop" : String) = "min.loop" := by decide
    obtain ⟨H, F, J, st, le, nI, nS, it, vb, kb, c, hS, rvb, rkb⟩ := m.ex
    obtain ⟨ok1, ok2, ok3⟩ := keysOk_is hks
    refine codeAny_builtin PySem.F.entry_min_loop ?_; rw [Around.under_plainId PySem.F.plain_min_loop _]
    show wpAny _ X.A.in1 (seqItems? (.ref S) >>= _) _ _ s
    refine wpAny_bind (wpAny_seqItems hS rfl ?_); show wpAny _ X.A.in1 (tryCatch (pyNext (.ref I)) _ >>= _) _ _ s
    cases rest with
    | nil =>
      have hj : ds.length ≤ j := by
        have q := List.drop_eq_nil_iff.mp e
        rw [List.length_zip] at q
        omega
      refine wpAny_bind (wpAny_tryCatch (min_end hl rv lI ne hh J st le nI it hS hj fun s1 J1 hS1 => ?_))
      show wpAny _ X.A.in1 (updateSeq S (fun _ => #[]) >>= _) _ _ _
      refine wpAny_bind ?_; refine wpAny_updateSeq hS1 rfl (wpAny_bind (wpAny_letGo (wpAny_pure ?_)))
      obtain ⟨w, q1, q2⟩ := rvb
      exact hR vb _ H F (min_wr (xs := #[]) (n := 0) (F := F) (oS := seqObj "list" #[] 0) J1 lS nS) le st ⟨w, q1, q2⟩
    | cons p rest =>
      obtain ⟨d, kd⟩ := p
      have hz : (ds.zip ks)[j]? = some (d, kd) := by
        have q := congrArg (fun x : List (D × D) => x[0]?) e
        simpa using q
      obtain ⟨hd, hkd⟩ := List.getElem?_zip_eq_some.mp hz
      have e' : (ds.zip ks).drop (j + 1) = rest := by
        have q := congrArg List.tail e
        rwa [List.tail_drop] at q
      have hkm : kd ∈ ks := List.mem_of_getElem? hkd
      refine wpAny_bind (wpAny_tryCatch (min_next hl rv lI ne J st le nI it hS hd fun u s1 J1 it1 hS1 hu1 => ?_))
      show wpAny _ X.A.in1 (tryCatch (holding [u] (call (.ref f) [u])) _ >>= _) _ _ _
      refine wpAny_bind (wpAny_tryCatch (wpAny_holding (min_key LK hr lI lS hf hc hcap J1 st le nI nS it1 hS1 (fun v q => by cases q) hu1 (hk j d kd hd hkd) fun ku s2 H2 F2 J2 st2 le2 nI2 nS2 it2 hS2 rk2 => ?_)))
      show wpAny _ X.A.in1 (tryCatch (holding [u, ku] (richCompare .Lt ku kb >>= _)) _ >>= _) _ _ _
      obtain ⟨wk, rk, rkr⟩ := rk2
      obtain ⟨wb, rb, rbr⟩ := rkb
      obtain ⟨as1, rd1⟩ := reads_of J2 st2.le (ok1 kd hkm) rkr rk
      obtain ⟨as2, rd2⟩ := reads_of J2 st2.le (ok1 b.2 hb) (RepV.mono (gv X ca) le2 _ _ rbr) rb
      have lt := PySem.W.rcLt_alike (toPy kd) (toPy b.2) X.A.in1 s2 ku kb _ _ rd1 rd2 (ok2 kd hkm b.2 hb) (ok3 kd hkm) (by
        have := (okD_lay 16 kd (ok1 kd hkm)).2
        show X.A.units + 1 + _ < cLine
        omega)
      refine wpAny_bind (wpAny_tryCatch (wpAny_holding (wpAny_bind (lt _ _ _ _ ?_))))
      refine wpAny_bind (wpAny_holding (wpAny_truthy_bool ?_)); refine wpAny_bind (wpAny_letGo (wpAny_pure ?_))
      have rv2 : ∃ w, RelV w u ∧ RepV (gv X ca) F2 d w := by
        obtain ⟨w, q1, q2⟩ := hu1
        exact ⟨w, q1, RepV.mono (gv X ca) le2 _ _ q2⟩
      have rvb2 : ∃ w, RelV w vb ∧ RepV (gv X ca) F2 b.1 w := by
        obtain ⟨w, q1, q2⟩ := rvb
        exact ⟨w, q1, RepV.mono (gv X ca) le2 _ _ q2⟩
      cases hlt : PySem.W.dataLt (toPy kd) (toPy b.2) with
      | true =>
        simp only [if_true]
        refine wpAny_bind ?_; refine wpAny_updateSeq hS2 rfl (wpAny_bind (wpAny_letGo ?_)); rw [hname]
        refine wpAny_pure ⟨plainId_quiet PySem.F.plain_min_loop _, min_loop LK hr hu hh lI lS ne hf hc hl rv hcap hk hks hlen rest (j + 1) (d, kd) _ e' hkm
          ⟨H2, F2, min_wr (xs := #[]) (n := 0) (F := F2) (oS := seqObj "list" #[] 0) J2 lS nS2, st2, le.trans le2, nI2, nS2, iter_keep it2 fun o z => (Heap.get?_update_other _ _ (Ne.symm ne)).trans z, u, ku, _, Heap.get?_update_self _ hS2 rfl, rv2, wk, rk, rkr⟩ fun u3 s3 H3 F3 J3 le3 st3 z => hR u3 s3 H3 F3 J3 le3 st3 ?_⟩
        have q : bestK b ((d, kd) :: rest) = bestK (d, kd) rest := by unfold bestK; rw [List.foldl_cons, if_pos hlt]
        rw [q]; exact z
      | false =>
        simp only [Bool.false_eq_true, if_false]
        refine wpAny_bind (wpAny_letGo ?_); rw [hname]
        refine wpAny_pure ⟨plainId_quiet PySem.F.plain_min_loop _, min_loop LK hr hu hh lI lS ne hf hc hl rv hcap hk hks hlen rest (j + 1) b _ e' hb
          ⟨H2, F2, J2, st2, le.trans le2, nI2, nS2, it2, vb, kb, c, hS2, rvb2, wb, rb, RepV.mono (gv X ca) le2 _ _ rbr⟩ fun u3 s3 H3 F3 J3 le3 st3 z => hR u3 s3 H3 F3 J3 le3 st3 ?_⟩
        have q : bestK b ((d, kd) :: rest) = bestK b rest := by unfold bestK; rw [List.foldl_cons, if_neg (by rw [hlt]; simp)]
        rw [q]; exact z
end
end PF

set_option Elab.async false
set_option linter.all false
set_option maxRecDepth 100000
set_option maxHeartbeats 2000000
namespace PF
open PySem PySem.Spec PyProof.Rows L2 LamX NdefX
section
variable {X : Cx} {ca : Ca} {k : Nat} {mk : Addr → NF} {be : Expr} {x : Str} {fr : List Str} {js : List Nat} {fb : M O} {pins : List (Addr × Obj)} {σ : L2.St} {H F0 Gx : Hp} {ρ : Sls} {l f c' : Addr} {vs : List V} {ds : List D} {ws : List D} {s : Shared}
theorem min_run (LK : LamK X ca k mk be x fr js fb) (hr : Room (k + 2) X.A) (hu : X.A.units + 65 < cLine) (hh : X.A.handled = none) (hf : F0 f = some (LamO f (mk c') be)) (hc : F0 c' = some (CodeO c' (mk c').qual))
    (hl : F0 l = some (.lst vs)) (rv : RepVs (gv X ca) F0 ds vs) (hcap : capS ρ js = some ws) {ks : List D} (hk : ∀ (j : Nat) (d kd : D), ds[j]? = some d → ks[j]? = some kd → ∃ ρ2, fb (some (.val d) :: ws.map fun w => some (.val w)) = some (.ok (.val kd), ρ2)) (hks : keysOk ks = true) (hlen : ks.length = ds.length)
    (J : Inv X pins σ H s) (st : StG (gv X ca) H F0 Gx σ ρ []) {p : D × D} {rest : List (D × D)} (hz : ds.zip ks = p :: rest) {Q : Value → Shared → Prop} {E : Value → Shared → Prop}
    (hQ : ∀ u s2 H2 F2, Inv X pins σ H2 s2 → Le F0 F2 → StG (gv X ca) H2 F2 Gx σ ρ [] → (∃ w, RelV w u ∧ RepV (gv X ca) F2 (bestK p rest).1 w) → Q u s2) :
    wpAny (model X.prog X.w) X.A (call (.builtin "min") [.ref l] [(PySem.Str.ofString "key", .ref f)]) Q E s := by
  have hname : (toString "min" ++ toString ".loop" : String) = "min.loop" := by decide
  obtain ⟨its, hv, pl, _⟩ := J.list (SqL.of (st.le _ _ hl))
  refine PyProof.Rows.kmk_tree PySem.F.kind_min PySem.F.plain_min PySem.F.entry_min (PyProof.Rows.kmk_min_key _ _) ?_
  show wpAny _ X.A.in1 (Builtin.Builtins.bindParams "min" ["key", "default"] 0 ⟨[], [(PySem.Str.ofString "key", .ref f)]⟩ >>= _) _ _ s
  refine wpAny_bind (wpAny_of_eq (a := [some (.ref f), none]) rfl ?_); refine wpAny_bind (wpAny_pure ?_)
  refine wpAny_bind (wpAny_pyIter_list (plain_list pl) ?_); refine wpAny_bind (wpAny_newObj_type ?_); rw [hname]
  obtain ⟨s1, hs1⟩ : ∃ s1 : Shared, s1 = { s with heap := s.heap.push { cls := .type "list_iterator", data := .fields #[.ref l, .int 0 0] } } := ⟨_, rfl⟩
  rw [← hs1]
  have z1 : s1.heap.objs.size = s.heap.objs.size + 1 := by rw [hs1]; exact Heap.size_push ..
  obtain ⟨s2, hs2⟩ : ∃ s2 : Shared, s2 = { s1 with heap := s1.heap.push { cls := .type "list", data := .seq #[] 0 }, toks := s1.toks } := ⟨_, rfl⟩
  have J1 : Inv X pins σ H s1 := by rw [hs1]; exact J.kept (t' := s.toks) fun b o z => Heap.get?_push_of_some _ z
  have J2 : Inv X pins σ H s2 := by rw [hs2]; exact J1.kept (t' := s1.toks) fun b o z => Heap.get?_push_of_some _ z
  have fI := J.fpOk (Nat.le_refl _) (J.hok.fresh (Nat.le_refl _))
  have fS := J1.fpOk (Nat.le_refl _) (J1.hok.fresh (Nat.le_refl _))
  have ne : s.heap.objs.size ≠ s1.heap.objs.size := by omega
  have gI : s2.heap.get? s.heap.objs.size = some { cls := .type "list_iterator", data := .fields #[.ref l, .int 0 0] } := by
    rw [hs2, hs1]; exact Heap.get?_push_of_some _ (Heap.get?_push_size _ rfl)
  have gS : s2.heap.get? s1.heap.objs.size = some { cls := .type "list", dict := none, data := .seq #[] 0, slots := #[] } := by
    rw [hs2]; exact Heap.get?_push_size _ rfl
  have it : s2.heap.IsListIter s.heap.objs.size l 0 := ⟨_, gI, rfl, rfl⟩
  obtain ⟨d, kd⟩ := p
  have hz0 : (ds.zip ks)[0]? = some (d, kd) := by rw [hz]; rfl
  obtain ⟨hd, hkd⟩ := List.getElem?_zip_eq_some.mp hz0
  have e' : (ds.zip ks).drop 1 = rest := by rw [hz]; rfl
  refine wpAny_pure ⟨plainId_quiet PySem.F.plain_min_loop _, ?_⟩
  show codeAny _ X.A (.builtin "min.loop" ⟨[.ref s.heap.objs.size, .ref f, .ref s1.heap.objs.size], []⟩) _ { s1 with heap := s1.heap.push { cls := .type "list", data := .seq #[] 0 }, toks := s1.toks }
  rw [← hs2]
  refine codeAny_builtin PySem.F.entry_min_loop ?_; rw [Around.under_plainId PySem.F.plain_min_loop _]
  show wpAny _ X.A.in1 (seqItems? (.ref s1.heap.objs.size) >>= _) _ _ s2
  refine wpAny_bind (wpAny_seqItems gS rfl ?_); show wpAny _ X.A.in1 (tryCatch (pyNext (.ref s.heap.objs.size)) _ >>= _) _ _ s2
  refine wpAny_bind (wpAny_tryCatch (min_next hl rv fI.2 ne J2 st (Le.refl F0) fI.1 it gS hd fun u s3 J3 it3 hS3 hu3 => ?_))
  show wpAny _ X.A.in1 (tryCatch (holding [u] (call (.ref f) [u])) _ >>= _) _ _ _
  refine wpAny_bind (wpAny_tryCatch (wpAny_holding (min_key LK hr fI.2 fS.2 hf hc hcap J3 st (Le.refl F0) fI.1 fS.1 it3 hS3 (fun v q => by cases q) hu3 (hk 0 d kd hd hkd) fun ku s4 H4 F4 J4 st4 le4 nI4 nS4 it4 hS4 rk4 => ?_)))
  show wpAny _ X.A.in1 (updateSeq s1.heap.objs.size (fun _ => #[u, ku]) >>= _) _ _ _
  refine wpAny_bind ?_; refine wpAny_updateSeq hS4 rfl ?_; rw [hname]
  obtain ⟨w, q1, q2⟩ := hu3
  refine wpAny_pure ⟨plainId_quiet PySem.F.plain_min_loop _, min_loop LK hr hu hh fI.2 fS.2 ne hf hc hl rv hcap hk hks hlen rest 1 (d, kd) _ e' (List.mem_of_getElem? hkd)
    ⟨H4, F4, min_wr (xs := #[]) (n := 0) (F := F4) (oS := seqObj "list" #[] 0) J4 fS.2 nS4, st4, le4, nI4, nS4, iter_keep it4 fun o z => (Heap.get?_update_other _ _ (Ne.symm ne)).trans z, u, ku, _, Heap.get?_update_self _ hS4 rfl, ⟨w, q1, RepV.mono (gv X ca) le4 _ _ q2⟩, rk4⟩ fun u3 s3 H3 F3 J3 le3 st3 z => hQ u3 s3 H3 F3 J3 le3 st3 z⟩
end
end PF

set_option Elab.async false
set_option linter.all false
set_option maxRecDepth 100000
set_option maxHeartbeats 2000000
namespace PF
open PySem PySem.Spec PyProof.Rows L2 LamX NdefX
theorem valsO_fzs : ∀ {os : List O} {ds : List D}, valsO os = some ds → fzs os = ds
  | [], ds, e => by rw [valsO] at e; cases e; rfl
  | .val d :: os, ds, e => by
    rw [valsO] at e
    obtain ⟨es, e1, rfl⟩ := Option.map_eq_some_iff.mp e
    rw [fzs, fz, valsO_fzs e1]
  | .lst _ :: os, ds, e => by simp [valsO] at e
  | .dct _ _ _ :: os, ds, e => by simp [valsO] at e
  | .ins _ _ _ :: os, ds, e => by simp [valsO] at e
theorem fz_dsL {o : O} {ds : List D} (e : o.dsL = some ds) : fz o = .lst ds := by
  cases o with
  | val d =>
    cases d with
    | lst es => rw [O.dsL] at e; cases e; rfl
    | _ => simp [O.dsL] at e
  | lst os => rw [O.dsL] at e; rw [fz, valsO_fzs e]
  | _ => simp [O.dsL] at e
theorem lst_ok {g : Gv} {H F Gx : Hp} {σ : L2.St} {ρ : Sls} {o : O} {v : V} {ds : List D} (st : StG g H F Gx σ ρ [(v, o)]) (e : o.dsL = some ds) : ∃ F2, Le F F2 ∧ StG g H F2 Gx σ ρ [] ∧ ∃ a vs, v = .ref a ∧ F2 a = some (.lst vs) ∧ RepVs g F2 ds vs := by
  obtain ⟨F2, le, st2⟩ := st.freeze
  have rv := st2.gd.val (B := slL σ ρ)
  rw [fz_dsL e, RepV] at rv
  exact ⟨F2, le, st2.drop1, rv⟩
/-! ### min(xs, key=lambda ..): the semantics -/
def keysM (fb : M O) (ws : List D) : List D → Option (List D)
  | [] => some []
  | d :: ds => match fb (some (.val d) :: ws.map fun w => some (.val w)) with
    | some (.ok (.val k), _) => (keysM fb ws ds).map (k :: ·)
    | _ => none
def minK (fb : M O) (ws : List D) (o : O) : Option O := match o.dsL with
  | some ds => (match keysM fb ws ds with
    | some ks => if keysOk ks = true then (match ds.zip ks with
      | p :: rest => some (.val (bestK p rest).1)
      | [] => none) else none
    | none => none)
  | none => none
def capM (js : List Nat) : M (List D) := fun ρ => match capS ρ js with
  | some ws => some (.ok ws, ρ)
  | none => none
def minKF (fa : M O) (js : List Nat) (fb : M O) : M O := fa.bind fun o => (capM js).bind fun ws => M.of (minK fb ws o)
theorem keysM_len {fb : M O} {ws : List D} : ∀ {ds ks : List D}, keysM fb ws ds = some ks → ks.length = ds.length
  | [], ks, e => by rw [keysM] at e; cases e; rfl
  | d :: ds, ks, e => by
    rw [keysM] at e
    split at e
    · obtain ⟨es, e1, rfl⟩ := Option.map_eq_some_iff.mp e
      rw [List.length_cons, List.length_cons, keysM_len e1]
    · cases e
theorem keysM_at {fb : M O} {ws : List D} : ∀ {ds ks : List D}, keysM fb ws ds = some ks → ∀ (j : Nat) (d kd : D), ds[j]? = some d → ks[j]? = some kd → ∃ ρ2, fb (some (.val d) :: ws.map fun w => some (.val w)) = some (.ok (.val kd), ρ2)
  | [], ks, e, j, d, kd, h, _ => by simp at h
  | a :: ds, ks, e, j, d, kd, h, h2 => by
    rw [keysM] at e
    split at e
    · rename_i k ρ2 hk
      obtain ⟨es, e1, rfl⟩ := Option.map_eq_some_iff.mp e
      cases j with
      | zero =>
        simp at h h2
        subst h h2
        exact ⟨ρ2, hk⟩
      | succ j => exact keysM_at e1 j d kd (by simpa using h) (by simpa using h2)
    · cases e
section
variable {X : Cx} {ca : Ca} {k : Nat} {mk : Addr → NF} {be : Expr} {x : Str} {fr : List Str} {js : List Nat} {fb fa : M O} {W : WX} {ea : Expr} {p pos lpos kpos : Pos} {params : Arguments} {scope : Scope} {c P : Addr}
/-- a built-in called with keywords; its rule may look at the slots -/
theorem pe_callBKs {id : String} {x : Str} {e : Expr} {es : List Expr} {kws : List Keyword} {ks : List Str} {t tk : TA} {r : L2.St → List V → List V → Hp → VK → Prop}
    (hc : ∀ (pins : List (Addr × Obj)) (s : Shared) (σ : L2.St) (H : Hp) (xs zs : List V) (us ws : List Value) (Q : VK), Inv X pins σ H s → Vals xs us → Vals zs ws → r σ xs zs H Q → wpAny (model X.prog X.w) X.A (call (.builtin id) us (ks.zip ws)) (EP X pins σ Q) X.xe s)
    (hg : Gl X x) (hm : X.mg x = none) (hv : bootBuiltins x = some (.builtin id)) (ha : PA X (e :: es) t) (hk : PK X kws tk) (hn : x ≠ "__name__" := by decide) (hdb : (x == ("__debug__" : Str)) = false := by decide)
    (he : backTo pos (starEach (e :: es) X.env) = (false, eval e X.env) :: backTo pos (starEach es X.env) := by rfl) (hpl : (backTo pos (starEach (e :: es) X.env)).any (·.1) = false := by rfl)
    (hall : (backToKw pos (keywordEach kws X.env)).all (·.1.isSome) = true := by rfl) (hnone : (backToKw pos (keywordEach kws X.env)).any (·.1.isNone) = false := by rfl) (hks : (backToKw pos (keywordEach kws X.env)).filterMap (·.1) = ks := by rfl) :
    PE X (.Call (.Name x p) (e :: es) kws pos) (fun σ H Q => t σ H fun vs H1 => tk σ H1 fun zs H2 => r σ vs zs H2 Q) := by
  refine ⟨fun pins s σ H Q I h => ?_⟩
  refine wpAny_Call_Name_kw (ld_blt I hg hm hv ?_ hn hdb)
  refine PyProof.Rows.callWith_kw (thn (ha.run pos pins s σ H _ I h) fun us s1 ⟨vs, H1, I1, r1, q1⟩ => thn (hk.run pos pins s1 σ H1 _ I1 q1) fun ws s2 ⟨zs, H2, I2, r2, q2⟩ => ?_) he hpl hall hnone
  rw [hks]; exact hc pins s2 σ H2 vs zs us ws Q I2 r1 r2 q2
theorem e_minkey (LK : LamK X ca k (fun c' => (⟨"<lambda>", X.env.qual ++ "<lambda>", params, [], scope, cloFrom X.env.cells scope.names [], c'⟩ : NF)) be x fr js fb) (TB : TabB X.base X.mg c P) (hcode : X.env.code = .ref c) (hp : (P, X.env.qual ++ "<lambda>") ∈ ca.tb) (hu1 : ∀ p' ∈ ca.tb, p'.1 = P → p' = (P, X.env.qual ++ "<lambda>"))
    (hdef : defaultsOf params X.env = ([], [])) (hfree : X.Ok → ∀ y ∈ scope.names, y.2 = .free → ∃ c, X.env.cells.lookup y.1 = some c)
    (hr : Room (k + 2) X.A) (hu : X.A.units + 65 < cLine) (hh : X.calm = true) (hg : Gl X "min") (hm : X.mg "min" = none) (ha : PE X ea (T (gv X ca) W fa))
    (hs : starEach [ea] X.env = (false, eval ea X.env) :: starEach [] X.env := by rfl) (he : backTo pos (starEach [ea] X.env) = (false, eval ea X.env) :: backTo pos (starEach [] X.env) := by rfl) (hpl : (backTo pos (starEach [ea] X.env)).any (·.1) = false := by rfl)
    (hks : (backToKw pos (keywordEach [⟨some (PySem.Str.ofString "key"), .Lambda params be scope lpos, kpos⟩] X.env)).filterMap (·.1) = [PySem.Str.ofString "key"] := by rfl)
    (hall : (backToKw pos (keywordEach [⟨some (PySem.Str.ofString "key"), .Lambda params be scope lpos, kpos⟩] X.env)).all (·.1.isSome) = true := by rfl) (hnone : (backToKw pos (keywordEach [⟨some (PySem.Str.ofString "key"), .Lambda params be scope lpos, kpos⟩] X.env)).any (·.1.isNone) = false := by rfl) :
    PE X (.Call (.Name "min" p) [ea] [⟨some (PySem.Str.ofString "key"), .Lambda params be scope lpos, kpos⟩] pos) (T (gv X ca) W (minKF fa js fb)) := by
  refine PE.imp (pe_callBKs (id := "min") (ks := [PySem.Str.ofString "key"]) (r := fun σ xs zs H Q => ∃ (F0 Gx : Hp) (ρ : Sls) (l f c' : Addr) (vs : List V) (ds ws ks : List D) (q : D × D) (rest : List (D × D)), xs = [.ref l] ∧ zs = [.ref f] ∧ StG (gv X ca) H F0 Gx σ ρ [] ∧ F0 f = some (LamO f ((fun c' => (⟨"<lambda>", X.env.qual ++ "<lambda>", params, [], scope, cloFrom X.env.cells scope.names [], c'⟩ : NF)) c') be) ∧ F0 c' = some (CodeO c' ((fun c' => (⟨"<lambda>", X.env.qual ++ "<lambda>", params, [], scope, cloFrom X.env.cells scope.names [], c'⟩ : NF)) c').qual) ∧
      F0 l = some (.lst vs) ∧ RepVs (gv X ca) F0 ds vs ∧ capS ρ js = some ws ∧ keysM fb ws ds = some ks ∧ keysOk ks = true ∧ ds.zip ks = q :: rest ∧ ∀ v H2 F2, Le F0 F2 → StG (gv X ca) H2 F2 Gx σ ρ [] → RepV (gv X ca) F2 (bestK q rest).1 v → Q v H2) ?_ hg hm rfl (pa_cons ha pa_nil hs) (pk_cons (pe_lam TB hcode hdef hfree) pk_nil) (by decide) (by decide) he hpl hall hnone hks) ?_
  · rintro pins s σ H xs zs us ws0 Q I rx rz ⟨F0, Gx, ρ, l, f, c', vs, ds, ws, ks, q, rest, rfl, rfl, st, h1, h2, h3, h4, h5, h6, h7, h8, hQ⟩
    cases rx with
    | cons rx1 rx2 =>
      cases rx2
      cases rz with
      | cons rz1 rz2 =>
        cases rz2
        cases rx1; cases rz1
        refine min_run LK hr hu (I.ok.hd hh) h1 h2 h3 h4 h5 (keysM_at h6) h7 (keysM_len h6) I st h8 fun u s2 H2 F2 J2 le2 st2 ⟨w, q1, q2⟩ => ?_
        exact ⟨w, H2, J2, q1, hQ w H2 F2 le2 st2 q2⟩
  · rintro σ H Q ⟨F, Gx, ρ, st, r⟩
    refine ⟨F, Gx, ρ, st, r.bind.mono fun o H1 F1 ρ1 le r1 v st1 => ?_⟩
    have r2 := r1.bind
    unfold Rn capM at r2
    cases hcap : capS ρ1 js with
    | none => rw [hcap] at r2; exact r2.elim
    | some ws =>
      rw [hcap] at r2
      have r3 : Rn (gv X ca) W (M.of (minK fb ws o)) σ H1 F1 Gx ρ1 (fun o H' F' ρ' => ∀ v, StG (gv X ca) H' F' Gx σ ρ' [(v, o)] → Q v H') := r2 H1 F1 (Le.refl _)
      obtain ⟨res, e, hq⟩ := r3.of
      unfold minK at e
      split at e
      · rename_i ds hds
        split at e
        · rename_i ks hks2
          split at e
          · rename_i hok
            split at e
            · rename_i q rest hz
              cases e
              obtain ⟨F2, le2, st2, l, vs, rfl, hl, rv⟩ := lst_ok st1 hds
              refine ⟨st2.tabs hp, fun f c' H3 hs hf => ?_⟩
              obtain ⟨F3, le3, a1, a2, st3⟩ := st2.lam (p := (P, X.env.qual ++ "<lambda>")) hp hu1 (u := LamO f ((fun c' => (⟨"<lambda>", X.env.qual ++ "<lambda>", params, [], scope, cloFrom X.env.cells scope.names [], c'⟩ : NF)) c') be) hs hf
              exact ⟨F3, Gx, ρ1, l, f, c', vs, ds, ws, ks, q, rest, rfl, rfl, st3, a1, a2, le3 _ _ hl, RepVs.mono (gv X ca) le3 _ _ rv, hcap, hks2, hok, hz, fun v2 H4 F4 le4 st4 rv4 => hq H4 F4 ((le2.trans le3).trans le4) v2 (st4.ofVal rv4)⟩
            · cases e
          · cases e
        · cases e
      · cases e
end
end PF

set_option Elab.async false
set_option linter.all false
set_option maxRecDepth 100000
set_option maxHeartbeats 2000000
namespace PF
open PySem PySem.Spec PyProof.Rows L2
/-! ### all, any of a list of truths -/
def blsD : List D → Option (List Bool)
  | [] => some []
  | .bl b :: ds => (blsD ds).map (b :: ·)
  | _ :: _ => none
theorem blsD_ok {g : Gv} {F : Hp} : ∀ {ds : List D} {vs : List V} {bs : List Bool}, RepVs g F ds vs → blsD ds = some bs → vs = bs.map V.bl
  | [], vs, bs, r, e => by
    rw [blsD] at e; cases e
    rw [RepVs] at r; exact r
  | .bl b :: ds, vs, bs, r, e => by
    rw [blsD] at e
    obtain ⟨es, e1, rfl⟩ := Option.map_eq_some_iff.mp e
    rw [RepVs] at r
    obtain ⟨v, w, rfl, r1, r2⟩ := r
    rw [RepV] at r1
    rw [r1, blsD_ok r2 e1, List.map_cons]
  | .non :: _, _, _, _, e => by simp [blsD] at e
  | .int _ :: _, _, _, _, e => by simp [blsD] at e
  | .str _ :: _, _, _, _, e => by simp [blsD] at e
  | .tup _ :: _, _, _, _, e => by simp [blsD] at e
  | .lst _ :: _, _, _, _, e => by simp [blsD] at e
  | .dct _ _ _ :: _, _, _, _, e => by simp [blsD] at e
  | .ins _ _ _ :: _, _, _, _, e => by simp [blsD] at e
  | .scr _ :: _, _, _, _, e => by simp [blsD] at e
  | .ty _ :: _, _, _, _, e => by simp [blsD] at e
  | .exn _ _ _ :: _, _, _, _, e => by simp [blsD] at e
def allF : List O → Option O
  | [o] => match o.dsL.bind blsD with
    | some bs => some (.val (.bl (bs.all id)))
    | none => none
  | _ => none
def anyF : List O → Option O
  | [o] => match o.dsL.bind blsD with
    | some bs => some (.val (.bl (bs.any id)))
    | none => none
  | _ => none
section
variable {X : Cx} {ca : Ca}
theorem cb_all (hc : X.calm = true) : CallR X (.builtin "all") (rF (gv X ca) allF) := by
  intro pins s σ H xs us Q I rv ⟨F, Gx, σ', ρ, os, res, st, vw, e, yd⟩
  unfold allF at e
  split at e
  · split at e
    · rename_i bs hb
      cases e
      obtain ⟨ds, h1, h2⟩ := Option.bind_eq_some_iff.mp hb
      obtain ⟨v, S, rfl, r⟩ := view1 vw
      obtain ⟨a, vs, rfl, q, r⟩ := dsL_ok st.le r h1
      rw [blsD_ok r h2] at q
      exact cr_all hc pins s σ H _ us Q I rv ⟨a, bs, rfl, SqL.of q, yd.val st repB⟩
    · cases e
  · cases e
theorem cb_any (hc : X.calm = true) : CallR X (.builtin "any") (rF (gv X ca) anyF) := by
  intro pins s σ H xs us Q I rv ⟨F, Gx, σ', ρ, os, res, st, vw, e, yd⟩
  unfold anyF at e
  split at e
  · split at e
    · rename_i bs hb
      cases e
      obtain ⟨ds, h1, h2⟩ := Option.bind_eq_some_iff.mp hb
      obtain ⟨v, S, rfl, r⟩ := view1 vw
      obtain ⟨a, vs, rfl, q, r⟩ := dsL_ok st.le r h1
      rw [blsD_ok r h2] at q
      exact cr_any hc pins s σ H _ us Q I rv ⟨a, bs, rfl, SqL.of q, yd.val st repB⟩
    · cases e
  · cases e
end
/-! ### sorted(NAME), NAME a dict of the top with text keys -/
theorem strs_rep {g : Gv} {F : Hp} : ∀ ks : List Str, RepVs g F (ks.map D.str) (ks.map V.str)
  | [] => by rw [List.map_nil, RepVs]; rfl
  | k :: ks => by rw [List.map_cons, List.map_cons, RepVs]; exact ⟨_, _, rfl, repS, strs_rep ks⟩
theorem keyS_is {e : DictEntry} {k : Str} (h : keyS e = some k) : ∃ t, e.key = Value.str k t := by
  unfold keyS at h
  split at h
  · rename_i z t q
    cases h
    exact ⟨t, q⟩
  · cases h
section
variable {X : Cx} {ca : Ca} {W : WX} {x : Str} {p px pos : Pos}
def rSortK (a : Addr) (ks : List Str) : List V → Hp → VK → Prop := fun vs H Q => vs = [.ref a] ∧ ∃ F Gx σ ρ, StG ⟨X.prog, X.w, X.K, ca⟩ H F Gx σ ρ [] ∧ Yd ⟨X.prog, X.w, X.K, ca⟩ H F Gx σ ρ (.lst ((srtD (ks.map D.str)).map O.val)) Q
theorem cb_sortK {a : Addr} {es : Array DictEntry} {n : Nat} {ks : List Str} (kd : KDict X.K X.w a es n) (hk : es.toList.map keyS = ks.map some) (hs : srtOk (ks.map D.str) = true) (hc : X.calm = true) (hu : X.A.units + 65 < cLine) : CallR X (.builtin "sorted") (rSortK (X := X) (ca := ca) a ks) := by
  rintro pins s σ H xs us Q I rv ⟨rfl, F, Gx, σ', ρ, st, yd⟩
  obtain ⟨u, rfl, ru⟩ := vals1 rv
  cases ru
  have so := srtOk_is hs
  have ho : s.heap.get? a = some ⟨.type "dict", none, .dict es n, #[]⟩ := I.kIn _ _ kd.at_
  have hlen : es.size = ks.length := by have := congrArg List.length hk; simpa using this
  have hlim := so.len
  have hl2 : (ks.map D.str).length = ks.length := List.length_map _
  refine Calls.call_function_entry PyProof.Rows.kind_sorted PyProof.Rows.plain_sorted PyProof.Rows.entry_sorted (PyProof.Rows.args_sorted1 _) ?_
  unfold Builtin.«sorted»
  refine wpAny_bind (m := checkCount "sorted" 1 1 _) (wpAny_pure ?_)
  refine wpAny_bind (PySem.W.kdu_collect (A := X.A.in1) (kdl_raw kd.low (o := ⟨.type "dict", none, .dict es n, #[]⟩) ⟨rfl, rfl, rfl⟩ rfl) (I.ok.hd hc) ho (by have := lim_le so.len; omega) fun h' tk acc kp it => ?_)
  have vl : Vals (ks.map V.str) acc.toList := by
    have hl : acc.toList.length = ks.length := by rw [Array.length_toList, it.1]; exact hlen
    have key : ∀ (l : List Value) (ks : List Str), l.length = ks.length → (∀ (j : Nat) (v : Value) (k : Str), l[j]? = some v → ks[j]? = some k → ∃ t, v = Value.str k t) → Vals (ks.map V.str) l := by
      intro l
      induction l with
      | nil => intro ks h _; cases ks with
        | nil => exact .nil
        | cons k ks => simp at h
      | cons v l ih => intro ks h h2; cases ks with
        | nil => simp at h
        | cons k ks =>
          obtain ⟨t, rfl⟩ := h2 0 v k rfl rfl
          exact .cons ⟨t, rfl⟩ (ih ks (by simpa using h) fun j v k h3 h4 => h2 (j + 1) v k (by simpa using h3) (by simpa using h4))
    refine key acc.toList ks hl fun j v k h1 h2 => ?_
    obtain ⟨en, hen, hv⟩ := it.2 j v (by rw [← Array.getElem?_toList]; exact h1)
    have q : (es.toList.map keyS)[j]? = some (some k) := by rw [hk, List.getElem?_map, h2]; rfl
    rw [List.getElem?_map] at q
    have hen2 : es.toList[j]? = some en := by first | exact hen | (rw [Array.getElem?_toList]; exact hen)
    rw [hen2] at q
    obtain ⟨t, e⟩ := keyS_is (Option.some.inj q)
    exact ⟨t, hv.trans e⟩
  have I1 : Inv X pins σ H { s with heap := h', toks := tk } := I.kept kp
  have al : acc.toList.length = ks.length := by have := vl.length; simpa using this.symm
  have hzl : acc.toList.length ≤ sizeLine := by rw [al, ← hl2]; exact lim_le so.len
  refine wpAny_bind (wpAny_newList ?_ hzl)
  have hoL : (h'.push (seqObj "list" acc.toList.toArray 0)).get? h'.objs.size = some (seqObj "list" acc.toList.toArray 0) := Heap.get?_push_size _ rfl
  have er := each_reads (ca := ca) I1 st.le so.ok (strs_rep ks) vl
  have er2 : PySem.W.EachIs (fun u d => ∃ as, Reads (h'.push (seqObj "list" acc.toList.toArray 0)) u (toPy d) as ∧ h'.objs.size ∉ as) acc.toList (ks.map D.str) := (PySem.W.each_mem er).mono fun u d ⟨⟨as, q⟩, hd⟩ => ⟨as, PyProof.Rows.Reads.keeps (fun _ _ w => Heap.get?_push_of_some _ w) q, fun m => by
    have hm := List.mem_map_of_mem (f := toPy) hd
    exact Nat.lt_irrefl _ (reads_lt _ _ _ (so.al _ hm _ hm) q _ m)⟩
  refine wpAny_bind (wpAny_holding (PySem.W.list_sort_data (s := { s with heap := h'.push (seqObj "list" acc.toList.toArray 0), toks := tk }) (enc := toPy) hoL (each_rep (ca := ca) I1 st.le (strs_rep ks) vl) er2 so.al so.so (lim_le so.len) (fun b hb => ?_) fun out hl ei => ?_))
  · have := (okD_lay 16 b (so.ok b hb)).2
    show X.A.units + 1 + 1 + _ < _
    omega
  · obtain ⟨ws, rw', vw'⟩ := rep_each ei
    obtain ⟨ep2, he2⟩ := PyProof.Rows.sortedHeap_at (vs := acc.toList) (out := out.toArray) hoL
    have wl : ws.length ≤ sizeLine := by rw [vw'.length, hl]; exact lim_le so.len
    refine wpAny_pure ⟨_, rfl, .ref h'.objs.size, upd H h'.objs.size (.lst ws), I1.laid (t' := tk) (fun b u e => ?_) (Nat.le_refl _) (show ObjOk X.prog X.w _ _ _ (.lst ws) from ⟨wl, out, ep2, vw', he2⟩), rfl, yd.lst st rw' _ (I1.hok.fresh (Nat.le_refl _))⟩
    have hb : b < h'.objs.size := Heap.lt_size e
    rw [PyProof.Rows.sortedHeap_old (Nat.ne_of_lt hb) (by rw [size_push']; exact Nat.lt_succ_of_lt hb)]
    exact Heap.get?_push_of_some _ e
theorem e_gsort {ks : List Str} (h : ∃ a es n, X.mg x = some (.ref a) ∧ KDict X.K X.w a es n ∧ es.toList.map keyS = ks.map some) (hs : srtOk (ks.map D.str) = true) (hc : X.calm = true) (hu : X.A.units + 65 < cLine) (hg : Gl X "sorted") (hm : X.mg "sorted" = none) (hgx : Gl X x := by rfl) (hdx : (x == ("__debug__" : Str)) = false := by decide)
    (he : starEach [.Name x px] X.env = (false, eval (.Name x px) X.env) :: starEach [] X.env := by rfl) (hpl : (backTo pos (starEach [] X.env)).any (·.1) = false := by rfl) :
    PE X (.Call (.Name "sorted" p) [.Name x px] [] pos) (T (gv X ca) W (M.pure (.lst ((srtD (ks.map D.str)).map O.val)))) := by
  obtain ⟨a, es, n, h1, kd, hk⟩ := h
  refine PE.imp (pe_callB (cb_sortK (ca := ca) kd hk hs hc hu) hg hm rfl (pa_cons (pe_glob (v := .ref a) hgx h1 rfl hdx) pa_nil he) (by decide) (by decide) he hpl) fun σ H Q ⟨F, Gx, ρ, st, r⟩ => ?_
  exact ⟨rfl, F, Gx, σ, ρ, st, fun v H2 F2 le2 st2 => r.pure H2 F2 le2 v st2⟩
end
/-! ### a def whose own code object is asked -/
section
variable {P : Program} {w : World} {K : PySem.W.Frag} {mg : Str → Option Value} {base : Heap}
theorem d_okC {x qual : Str} {params : Arguments} {body : List Stmt} {scope : Scope} {f : Addr} {fd : FuncData} {N ps : List Str} {k : Nat} {ca : Ca} {ms : List Bool} {b : M Out} (Fu : FunD K x qual params body scope [] [] f fd) (S : FnScope N ps scope) (hl : ms.length = ps.length) (hN : ms.length ≤ N.length)
    (hbody : ∀ (A : Around) (outer : List Env) (s : Shared) (H : Hp) (E : XK), Room k (A.deeper (envOfC qual scope s.heap.objs.size f fd.code)) →
      PSs (cxOf (L2.CX P w) P w K mg base N qual scope f fd.code A outer s H E) body (Ts ⟨P, w, K, ca⟩ (fun c d _ H => E c d H) (pinOf 0 ms) b)) :
    FnOk P w K mg base (L2.CX P w) (k + 1) f fd ps (spOf ⟨P, w, K, ca⟩ ms (defM N.length b)) := by
  obtain ⟨oc, od, dV, kV, doc, pm, an, cdv, ct, osl, rfl, lk, hcd, _, _⟩ := Fu.ex
  refine fn_of lk hcd S (fun vs H Q E h => h.1.trans hl) fun A outer s H vs Q E hr h => ⟨_, hbody A outer s H E hr, d_end hN h⟩
end
/-- a def's code object has a table of its own, in which its lambdas' code objects stand -/
structure TbF (ca : Ca) (base : Heap) (mg : Str → Option Value) (cd : Value) (q : Str) : Prop where
  ex : ∃ c P, cd = .ref c ∧ LamX.TabB base mg c P ∧ (P, q) ∈ ca.tb ∧ ∀ p ∈ ca.tb, p.1 = P → p = (P, q)
end PF

set_option Elab.async false
set_option linter.all false
set_option maxRecDepth 100000
set_option maxHeartbeats 2000000
namespace PF
open PySem PySem.Spec PyProof.Rows L2
/-! ### a, b = x, y by way of a tuple -/
section
variable {g : Gv} {H F Gx : Hp} {σ : L2.St} {ρ : Sls} {L : List (V × O)}
/-- a new thing that nobody has any more -/
theorem Good.junk {B : List (V × O)} {p : Addr} {u : HO} (h : Good g H F Gx B) (hp : H p = none) : Good g (upd H p u) F Gx B := by
  obtain ⟨S, hT, hF, hG, hFG, hS, hL⟩ := h.ex
  have nS : ∀ a, S a → a ≠ p := fun a h e => by
    subst e
    obtain ⟨_, _, o, ho⟩ := hS a h
    rw [ho] at hp; cases hp
  refine ⟨S, (hT.fresh hp).sub fun a h => .inr h, fun a o e => ?_, fun a o e => ?_, hFG, fun a h => ?_, RepL.frame g (Le.refl F) B S S (fun _ h => h) (fun a h => upd_ne (nS a h)) hL⟩
  · rw [upd_ne (fun q => by subst q; rw [hF _ _ e] at hp; cases hp)]; exact hF a o e
  · rw [upd_ne (fun q => by subst q; rw [hG _ _ e] at hp; cases hp)]; exact hG a o e
  · rw [upd_ne (nS a h)]; exact hS a h
end
section
variable {W : WX} {pn : List Nat} {X : Cx} {ca : Ca} {a b c : Expr} {fs : M (List O)} {pos pt px py pz pt2 : Pos} {x y z : Str} {i j k kt k2 : Nat}
theorem s_tup2 (hc : X.calm = true) (hN : X.N.Nodup) (hi : X.N[i]? = some x) (hj : X.N[j]? = some y) (hpi : i ∉ pn) (hpj : j ∉ pn) (hx : Loc X.env.scope x) (hy : Loc X.env.scope y) (ha : PA X [a, b] (TL (gv X ca) W fs))
    (fx : X.fn x = true ∨ X.env.scope.names.lookup x = some .local := by first | exact .inl rfl | exact .inr rfl | assumption) (fy : X.fn y = true ∨ X.env.scope.names.lookup y = some .local := by first | exact .inl rfl | exact .inr rfl | assumption)
    (hs : swapsWithSole [.Tuple [.Name x px, .Name y py] kt pt] (.Tuple [a, b] k2 pt2) pos.line X.env = pure false := by rfl) (hw : swappedStores [.Tuple [.Name x px, .Name y py] kt pt] (.Tuple [a, b] k2 pt2) X.env = pure none := by rfl) :
    PS X (.Assign [.Tuple [.Name x px, .Name y py] kt pt] (.Tuple [a, b] k2 pt2) pos) (Ts (gv X ca) W pn (par2 i j fs)) :=
  PS.imp (ps_asg (pe_tup ha) (pg_tup hc (pgs_cons (pg_name hN hi hx fx) (pgs_cons (pg_name hN hj hy fy) pgs_nil))) hs hw) fun D σ H ⟨F, Gx, ρ, st, r⟩ => ⟨F, Gx, ρ, st, r.expr.mono fun os H' F' ρ' le r1 vs hl st' => by
    split at r1
    · obtain ⟨v, w, rfl⟩ : ∃ v w, vs = [v, w] := by
        match vs, hl with
        | [v, w], _ => exact ⟨v, w, rfl⟩
      refine ⟨by show 2 ≤ sizeLine; decide, fun p hp => ⟨p, [v, w], rfl, .inl (.inl upd_same), rfl, v, [w], rfl, w, [], rfl, rfl, ?_⟩⟩
      have st2 : StG (gv X ca) (upd H' p (.tup [v, w])) F' Gx σ ρ' ((v, _) :: [(w, _)]) := ⟨st'.wf, st'.len, Good.junk st'.gd hp⟩
      obtain ⟨ρ1, st3, r2⟩ := Ts_puts hpi st2 r1
      obtain ⟨ρ2, st4, r3⟩ := Ts_puts hpj st3 r2
      exact r3.pure _ F' _ (Le.refl _) (Pin.refl _) st4
    · obtain ⟨_, _, e⟩ := r1.run; cases e⟩
end
end PF

set_option Elab.async false
set_option linter.all false
set_option maxRecDepth 100000
set_option maxHeartbeats 1000000
namespace PF
open PySem PySem.Spec PyProof.Rows L2
/-! ### while, with a bound -/
def whileN (fc : M Bool) (fb : M Out) : Nat → M Out
  | 0 => M.stuck
  | n + 1 => fc.bind fun b => if b = true then fb.bind fun out => match out with
      | .bk => M.pure .nx
      | .rt o => M.pure (.rt o)
      | _ => whileN fc fb n
    else M.pure .nx
section
variable {g : Gv} {W : WX} {pn : List Nat} {fc : M Bool} {fb : M Out} {X : Cx} {c : Expr} {body : List Stmt} {pos : Pos}
theorem s_while (n : Nat) (hp : PassesOwn (model X.prog X.w) X.A X.env X.xe) (hc : PT X c (Tt g W fc)) (hb : PSs X body (Ts g W pn fb)) : PS X (.While c body [] pos) (Ts g W pn (whileN fc fb n)) :=
  PS.imp (ps_while hp hc hb) fun D σ H ⟨F, Gx, ρ, st, r⟩ => by
    refine ⟨fun m σ1 H1 => ∃ F1 ρ1, StG g H1 F1 Gx σ1 ρ1 [] ∧ Rs g W pn (whileN fc fb m) σ1 F1 Gx ρ1 (EndR g Gx D), ⟨n, F, ρ, st, r⟩, fun m σ1 H1 ⟨F1, ρ1, st1, r1⟩ => ?_⟩
    cases m with
    | zero => obtain ⟨_, _, e⟩ := r1.run; cases e
    | succ m =>
      refine ⟨F1, Gx, ρ1, st1, r1.expr.mono fun b H' F' ρ' le r2 st' => ?_⟩
      cases b with
      | false => exact r2.pure H' F' σ1 (Le.refl _) (Pin.refl _) st'
      | true =>
        rw [if_pos rfl] at r2
        refine ⟨fun σ' H' => ∃ F' ρ', StG g H' F' Gx σ' ρ' [] ∧ Rs g W pn (whileN fc fb m) σ' F' Gx ρ' (EndR g Gx D), fun σ' H' ⟨F', ρ', b, c⟩ => ⟨m, Nat.lt_succ_self m, F', ρ', b, c⟩, F', Gx, ρ', st', r2.bind.mono fun out H4 F4 σ4 ρ4 le4 p4 r5 => ?_⟩
        cases out with
        | nx => exact fun st4 => ⟨F4, ρ4, st4, r5⟩
        | ct => exact fun st4 => ⟨F4, ρ4, st4, r5⟩
        | bk => exact fun st4 => r5.pure H4 F4 σ4 (Le.refl _) (Pin.refl _) st4
        | rt o => exact fun v st4 => r5.pure H4 F4 σ4 (Le.refl _) (Pin.refl _) v st4
end
/-- the run of a loop by an invariant with a measure -/
theorem ev_while {fc : M Bool} {fb : M Out} {R : Out → Sls → Prop} (Iv : Nat → Sls → Prop) (hs : ∀ m ρ, Iv m ρ → Ev fc ρ fun b ρ1 => if b = true then Ev fb ρ1 fun out ρ2 => match out with
    | .bk => R .nx ρ2
    | .rt o => R (.rt o) ρ2
    | _ => ∃ m', m' < m ∧ Iv m' ρ2 else R .nx ρ1) : ∀ (n m : Nat) (ρ : Sls), m < n → Iv m ρ → Ev (whileN fc fb n) ρ R
  | 0, m, ρ, h, _ => absurd h (Nat.not_lt_zero m)
  | n + 1, m, ρ, h, i => by
    rw [whileN, ev_bind]
    refine (hs m ρ i).mono fun b ρ1 q => ?_
    cases b with
    | false => exact ev_pure.mpr q
    | true =>
      rw [if_pos rfl] at q ⊢
      rw [ev_bind]
      refine Ev.mono q fun out ρ2 q => ?_
      cases out with
      | bk => exact ev_pure.mpr q
      | rt o => exact ev_pure.mpr q
      | nx =>
        obtain ⟨m', hm, i'⟩ := q
        exact ev_while Iv hs n m' ρ2 (by omega) i'
      | ct =>
        obtain ⟨m', hm, i'⟩ := q
        exact ev_while Iv hs n m' ρ2 (by omega) i'
end PF

set_option Elab.async false
set_option linter.all false
set_option maxRecDepth 100000
set_option maxHeartbeats 1000000
namespace PF
open PySem PySem.Spec PyProof.Rows L2
/-! ### name += e, of ints -/
def addI : O → O → Option O
  | .val (.int i), .val (.int j) => some (.val (.int (i + j)))
  | _, _ => none
def augI (i : Nat) (fe : M O) : M Out := (pk i).bind fun a => fe.bind fun b => (M.of (addI a b)).bind fun z => (putS i z).bind fun _ => M.pure .nx
theorem addI_some {a b z : O} (h : addI a b = some z) : ∃ p q : Int, a = .val (.int p) ∧ b = .val (.int q) ∧ z = .val (.int (p + q)) := by
  unfold addI at h
  split at h
  · cases h; exact ⟨_, _, rfl, rfl, rfl⟩
  · cases h
section
variable {g : Gv} {W : WX} {pn : List Nat} {X : Cx} {e : Expr} {pos : Pos}
theorem s_augI {i : Nat} {x : Str} {pos' : Pos} {f : M O} (hN : X.N.Nodup) (hi : X.N[i]? = some x) (hx : Loc X.env.scope x) (hp : i ∉ pn) (he : PE X e (T g W f)) (hf : X.fn x = true ∨ X.env.scope.names.lookup x = some .local := by first | exact .inl rfl | exact .inr rfl | assumption) :
    PS X (.AugAssign (.Name x pos') .Add e pos) (Ts g W pn (augI i f)) :=
  PS.imp (ps_aug hN hi hx he ip_add hf) fun D σ H ⟨F, Gx, ρ, st, r⟩ => by
    obtain ⟨a, ha, r1⟩ := Rs.pk r
    obtain ⟨v, S, hv, rep⟩ := st.peek ha
    refine ⟨v, hv, F, Gx, ρ, st, r1.expr.mono fun b H1 F1 ρ1 le r2 y st1 => ?_⟩
    obtain ⟨z, ez, r3⟩ := r2.expr.of (H := H1)
    obtain ⟨p, q, rfl, rfl, rfl⟩ := addI_some ez
    have e1 : v = .int p := by
      rw [RepO] at rep
      first | exact rep | (have := rep; rw [RepV] at this; exact this) | (have := rep.1; rw [RepV] at this; exact this) | (have := rep.2; rw [RepV] at this; exact this)
    have e2 : y = .int q := by
      have rv := st1.gd.val (B := slL σ ρ1)
      rw [RepV] at rv; exact rv
    exact ⟨p, q, e1, e2, Ts_nx (Ts_put hp (st1.drop1.ofVal repI) (r3 H1 F1 (Le.refl _)))⟩
end
end PF

set_option Elab.async false
set_option linter.all false
set_option maxRecDepth 100000
set_option maxHeartbeats 1000000
namespace PF
open PySem PySem.Spec PyProof.Rows L2
/-! ### an attribute of an instance, read -/
def fldD (f : Str) : List Str → List D → Option D
  | n :: ns, d :: ds => if (f == n) = true then some d else fldD f ns ds
  | _, _ => none
def fldL (f : Str) : List Str → List O → Option O
  | n :: ns, o :: os => if (f == n) = true then some o else fldL f ns os
  | _, _ => none
def fldF (C : Nat) (f : Str) : O → Option O
  | .val (.ins c ns ds) => if c = C then (fldD f ns ds).map .val else none
  | .ins c ns os => if c = C then match fldL f ns os with
    | some (.val d) => some (.val d)
    | _ => none else none
  | _ => none
def fldE (C : Nat) (f : Str) (fe : M O) : M O := fe.bind fun o => M.of (fldF C f o)
theorem lookup_cons_if {α : Type} {f n : Str} {v : α} {l : List (Str × α)} : ((n, v) :: l).lookup f = if (f == n) = true then some v else l.lookup f := by
  rw [List.lookup_cons]
  cases f == n <;> rfl
theorem fldD_ok {g : Gv} {F : Hp} {f : Str} : ∀ {ns : List Str} {ds : List D} {vs : List V} {d : D}, RepVs g F ds vs → fldD f ns ds = some d → ∃ w, (ns.zip vs).lookup f = some w ∧ RepV g F d w
  | [], _, _, _, _, e => by cases e
  | n :: ns, [], _, _, _, e => by cases e
  | n :: ns, d :: ds, vs, d', r, e => by
    rw [RepVs] at r
    obtain ⟨v, r, rfl, r1, r2⟩ := r
    rw [fldD] at e
    rw [List.zip_cons_cons, lookup_cons_if]
    split at e
    · rename_i h; cases e; rw [if_pos h]; exact ⟨v, rfl, r1⟩
    · rename_i h; rw [if_neg h]; exact fldD_ok r2 e
theorem fldL_ok {g : Gv} {H F : Hp} {f : Str} : ∀ {ns : List Str} {os : List O} {vs : List V} {d : D} {S : Addr → Prop}, RepOs g H F os vs S → fldL f ns os = some (.val d) → ∃ w, (ns.zip vs).lookup f = some w ∧ RepV g F d w
  | [], _, _, _, _, _, e => by cases e
  | n :: ns, [], _, _, _, _, e => by cases e
  | n :: ns, o :: os, vs, d', S, r, e => by
    rw [RepOs] at r
    obtain ⟨v, r, S1, S2, rfl, _, r1, r2⟩ := r
    rw [fldL] at e
    rw [List.zip_cons_cons, lookup_cons_if]
    split at e
    · rename_i h; cases e; rw [if_pos h]; rw [RepO] at r1; exact ⟨v, rfl, r1⟩
    · rename_i h; rw [if_neg h]; exact fldL_ok r2 e
section
variable {W : WX} {X : Cx} {ca : Ca} {e : Expr} {f : Str} {pos : Pos} {fe : M O}
theorem e_fld {C : Nat} (he : PE X e (TR (gv X ca) W fe)) (hC : Cls X.K (ca C)) (hn : NoAttr X.K (ca C) f) (hb : attributeBase e f X.env (eval e X.env) = eval e X.env := by rfl) : PE X (.Attribute e f pos) (T (gv X ca) W (fldE C f fe)) :=
  PE.imp (pe_fld he hb) fun σ H Q ⟨F, Gx, ρ, st, r⟩ => by
    refine ⟨F, Gx, ρ, st, r.bind.mono fun o H1 F1 ρ1 le r1 v S st1 rep => ?_⟩
    obtain ⟨z, ez, r2⟩ := r1.of
    unfold fldF at ez
    split at ez
    · rename_i c ns ds
      split at ez
      · rename_i hc; subst hc
        obtain ⟨d, ed, rfl⟩ := Option.map_eq_some_iff.mp ez
        rw [RepO, RepV] at rep
        obtain ⟨a, dx, vs, rfl, hl, ha, rv⟩ := rep
        obtain ⟨w, hw, rw'⟩ := fldD_ok rv ed
        exact ⟨a, _, dx, _, w, rfl, st1.le _ _ ha, hC, hn, hw, r2 H1 F1 (Le.refl _) w (st1.ofVal rw')⟩
      · cases ez
    · rename_i c ns os
      split at ez
      · rename_i hc; subst hc
        split at ez
        · rename_i d ed
          cases ez
          rw [RepO] at rep
          obtain ⟨a, dx, vs, rfl, _, hl, ha, rv⟩ := rep
          obtain ⟨w, hw, rw'⟩ := fldL_ok rv ed
          exact ⟨a, _, dx, _, w, rfl, ha, hC, hn, hw, r2 H1 F1 (Le.refl _) w (st1.ofVal rw')⟩
        · cases ez
      · cases ez
    · cases ez
end
end PF

set_option Elab.async false
set_option linter.all false
set_option maxRecDepth 100000
set_option maxHeartbeats 1000000
namespace PF
open PySem PySem.Spec PyProof.Rows L2
/-! ### an instance, made -/
def makeF (C : Nat) (fs : M (List O)) (sem : M O) : M O := fs.bind fun os => fun ρ => match sem (some (.ins C [] []) :: os.map some) with
  | some (.ok (.val .non), some o :: _) => some (.ok o, ρ)
  | some (.ex e, _) => some (.ex e, ρ)
  | _ => none
def tMakeSD (C : Addr) (sp : Sp) (E : L2.St → XK) (t : TA) : TE := fun σ H Q => t σ H fun vs H1 => ∀ x dx, H1 x = none → H1 dx = none → dx ≠ x → sp (.ref x :: vs) (upd (upd H1 dx (.own x)) x (.ins C dx [])) (fun v H2 => v = .non ∧ Q (.ref x) H2) (E σ)
section
variable {X : Cx} {CX : CXT} {k : Nat} {f C : Addr} {fd : FuncData} {ps : List Str} {sp : Sp} {E : L2.St → XK} {x : Str} {p pos : Pos} {e : Expr} {es : List Expr} {t : TA}
theorem run_makeSD {pins : List (Addr × Obj)} {σ : L2.St} {H : Hp} {s : Shared} {Q : VK} {us : List Value} {vs : List V} (M : Mk X.K C f) (F : FnOk X.prog X.w X.K X.mg X.base CX k f fd ps sp) (hr : Room (k + 1) X.A) (hb : Binds X.K fd ps [])
    (hx : PassesAt CX X σ (E σ)) (I : Inv X pins σ H s) (r : Vals vs us)
    (h : ∀ x dx, H x = none → H dx = none → dx ≠ x → sp (.ref x :: vs) (upd (upd H dx (.own x)) x (.ins C dx [])) (fun v H2 => v = .non ∧ Q (.ref x) H2) (E σ)) :
    wpAny (model X.prog X.w) X.A (call (.ref C) us) (EP X pins σ Q) X.xe s := by
  have hq := h (s.heap.objs.size + 1) s.heap.objs.size (I.hok.fresh (Nat.le_succ _)) (I.hok.fresh (Nat.le_refl _)) (Nat.ne_of_lt (Nat.lt_succ_self _))
  have I2 := Inv.made (C := C) I
  have r2 : Vals (V.ref (s.heap.objs.size + 1) :: vs) (Value.ref (s.heap.objs.size + 1) :: us) := .cons rfl r
  have hl : (Value.ref (s.heap.objs.size + 1) :: us ++ []).length = ps.length := by
    have e := r2.length
    rw [F.len _ _ _ _ hq] at e
    rw [List.append_nil]
    exact e.symm
  have hb2 := hb _ (Value.ref (s.heap.objs.size + 1) :: us) I2.kIn hl
  rw [List.append_nil] at hb2
  refine wpAny_call (make_map (f := f) I.kIn M.makes M.init (beq_iff_eq.mp M.fn) (codeAny_mono (F.run _ X.stack _ _ ⟨Value.ref (s.heap.objs.size + 1) :: us, []⟩ (Value.ref (s.heap.objs.size + 1) :: us) _ _ (E σ) (hr.make C us [])
    (I2.env0.make C us []) hb2 r2 hq) fun r s' hq' => ?_))
  cases r with
  | error e => exact hx pins _ _ e s' I2 hq'
  | ok fl =>
    cases fl with
    | ret u =>
      obtain ⟨v, H', I3, rv, ev, q3⟩ := I2.after hq'
      subst ev
      exact ⟨rv, ⟨V.ref (s.heap.objs.size + 1), H', I3, rfl, q3⟩⟩
    | next => exact False.elim hq'
    | brk => exact False.elim hq'
    | cont => exact False.elim hq'
theorem pe_makeSD (M : Mk X.K C f) (F : FnOk X.prog X.w X.K X.mg X.base CX k f fd ps sp) (hr : Room (k + 1) X.A) (hg : Gl X x) (hm : X.mg x = some (.ref C)) (hb : Binds X.K fd ps []) (hx : ∀ σ, PassesAt CX X σ (E σ))
    (ha : PA X (e :: es) t) (hdb : (x == ("__debug__" : Str)) = false := by decide) (he : starEach (e :: es) X.env = (false, eval e X.env) :: starEach es X.env := by rfl) (hpl : (backTo pos (starEach es X.env)).any (·.1) = false := by rfl) :
    PE X (.Call (.Name x p) (e :: es) [] pos) (tMakeSD C sp E t) := by
  refine ⟨fun pins s σ H Q I h => ?_⟩
  refine wpAny_Call_Name_kw (ld_glob I hg hm ?_ hdb)
  refine PySem.W.callWith_K (h₀ := X.base) I.ok.mod.kin M.kp (thn (ha.run pos pins s σ H _ I h) fun us s1 ⟨vs, H1, I1, r, q⟩ => ⟨I1.kIn, ?_⟩) he hpl
  exact run_makeSD M F hr hb (hx σ) I1 r q
end
section
variable {g : Gv} {W : WX} {σ : L2.St}
theorem make_run {C : Nat} {ms : List Bool} {sem : M O} {os : List O} {H F Gx : Hp} {ρ : Sls} {vs : List V} {Q : VK} (hms : ms.length = os.length) (hl : vs.length = os.length) (st : StG g H F Gx σ ρ (vs.zip os))
    (r : Rn g W (fun ρ => match sem (some (.ins C [] []) :: os.map some) with
      | some (.ok (.val .non), some o :: _) => some (.ok o, ρ)
      | some (.ex e, _) => some (.ex e, ρ)
      | _ => none) σ H F Gx ρ fun o H' F' ρ' => ∀ v, StG g H' F' Gx σ ρ' [(v, o)] → Q v H') {x dx : Addr} (hx : H x = none) (hdx : H dx = none) (hne : dx ≠ x) :
    spOf g (true :: ms) sem (.ref x :: vs) (upd (upd H dx (.own x)) x (.ins (g.ca C) dx [])) (fun v H2 => v = .non ∧ Q (.ref x) H2) (WE W σ) := by
  have g1 : Good g (upd H dx (.own x)) F Gx (vs.zip os ++ slL σ ρ) := st.gd.junk hdx
  have hx2 : (upd H dx (.own x)) x = none := by rw [upd_ne (Ne.symm hne)]; exact hx
  have g2 := Good.newO (o := .ins C [] []) (u := .ins (g.ca C) dx []) g1 hx2 fun S hS => by
    rw [RepO]
    exact ⟨x, dx, [], rfl, hS, rfl, by unfold upd; simp, by rw [RepOs]⟩
  have hz : ∀ (vs : List V) (os : List O), vs.length = os.length → slL (vs.map some) (os.map some) = vs.zip os := by
    intro vs
    induction vs with
    | nil => intro os h; cases os with
      | nil => rfl
      | cons o os => simp at h
    | cons v vs ih => intro os h; cases os with
      | nil => simp at h
      | cons o os => rw [List.map_cons, List.map_cons, slL, ih os (by simpa using h)]; rfl
  have g3 : Good g (upd (upd H dx (.own x)) x (.ins (g.ca C) dx [])) F Gx (slL ((V.ref x :: vs).map some) (some (.ins C [] []) :: os.map some) ++ slL σ ρ) := by
    rw [List.map_cons, slL, hz vs os hl]
    exact g2
  obtain ⟨Gx', gc, back⟩ := g3.aside
  have wc : SlW ((V.ref x :: vs).map some) (some (.ins C [] []) :: os.map some) := fun i o e => by
    have hi := (List.getElem?_eq_some_iff.mp e).1
    have hi2 : i < (V.ref x :: vs).length := by simp at hi ⊢; omega
    exact ⟨(V.ref x :: vs)[i], by rw [List.getElem?_map, List.getElem?_eq_getElem hi2]; rfl⟩
  refine ⟨by simp [hl, hms], F, Gx', _, ⟨wc, by simp [hl], gc⟩, ?_⟩
  unfold Rn at r
  cases hs : sem (some (.ins C [] []) :: os.map some) with
  | none => simp [hs] at r
  | some q =>
    obtain ⟨rz, c'⟩ := q
    simp only [hs] at r
    cases rz with
    | ex e =>
      exact fun d H' F' le st' xa => r H' F' d le ⟨st.wf, st.len, (back H' F' _ le st'.gd).dropL⟩ xa
    | ok o =>
      cases o with
      | val d0 =>
        cases d0 with
        | non =>
          cases c' with
          | nil => exact r.elim
          | cons r0 c'' =>
            cases r0 with
            | none => exact r.elim
            | some o1 =>
              intro v H' F' le st'
              have gv := st'.gd
              have hv : v = .non := by
                have := gv.val (B := slL ((V.ref x :: vs).map some) (mask (true :: ms) (some o1 :: c'')))
                rw [RepV] at this; exact this
              refine ⟨hv, r H' F' le (.ref x) ⟨st.wf, st.len, ?_⟩⟩
              have gb := back H' F' _ le gv.drop1
              have gb2 : Good g H' F' Gx ((V.ref x, o1) :: (slL (vs.map some) (mask ms c'') ++ slL σ ρ)) := gb
              have gb3 := gb2.perm (L' := slL (vs.map some) (mask ms c'') ++ ((V.ref x, o1) :: slL σ ρ)) (List.perm_middle.symm)
              exact gb3.dropL
        | _ => exact r.elim
      | _ => exact r.elim
end
section
variable {W : WX} {X : Cx} {ca : Ca} {k : Nat} {f : Addr} {fd : FuncData} {ps : List Str} {ms : List Bool} {sem : M O} {x : Str} {p pos : Pos} {e : Expr} {es : List Expr} {fs : M (List O)}
theorem e_make {C : Nat} (M : Mk X.K (ca C) f) (Fo : FnOk X.prog X.w X.K X.mg X.base (L2.CX X.prog X.w) k f fd ps (spOf (gv X ca) (true :: ms) sem)) (hr : Room (k + 1) X.A) (hg : Gl X x) (hm : X.mg x = some (.ref (ca C))) (hb : Binds X.K fd ps []) (tk : Takes X W)
    (hms : ms.length = (e :: es).length) (hfs : ∀ ρ os ρ', fs ρ = some (.ok os, ρ') → os.length = (e :: es).length) (ha : PA X (e :: es) (TL (gv X ca) W fs)) (hdb : (x == ("__debug__" : Str)) = false := by decide) (he : starEach (e :: es) X.env = (false, eval e X.env) :: starEach es X.env := by rfl) (hpl : (backTo pos (starEach es X.env)).any (·.1) = false := by rfl) :
    PE X (.Call (.Name x p) (e :: es) [] pos) (T (gv X ca) W (makeF C fs sem)) :=
  PE.imp (pe_makeSD (E := WE W) M Fo hr hg hm hb (fun σ => passAt tk σ) ha hdb he hpl) fun σ H Q ⟨F, Gx, ρ, st, r⟩ => by
    refine ⟨F, Gx, ρ, st, ?_⟩
    have hlen : ∀ os ρ', fs ρ = some (.ok os, ρ') → os.length = (e :: es).length := hfs ρ
    have r0 := r.bind
    unfold Rn at r0 ⊢
    split <;> rename_i q <;> rw [q] at r0
    · exact r0
    · rename_i os ρ1
      intro H1 F1 le vs hl st1 x dx hx hdx hne
      exact make_run (by rw [hms, hlen _ _ q]) hl st1 (r0 H1 F1 le) hx hdx hne
    · exact r0
end
end PF

set_option Elab.async false
set_option linter.all false
set_option maxRecDepth 100000
set_option maxHeartbeats 1000000
namespace PF
open PySem PySem.Spec PyProof.Rows L2
/-! ### o.m(e, ..): the receiver handed on, as the first argument -/
def chkI (C : Nat) (m : Str) : O → Option O
  | .val (.ins c ns ds) => if c = C ∧ ns.contains m = false then some (.val (.ins c ns ds)) else none
  | .ins c ns os => if c = C ∧ ns.contains m = false then some (.ins c ns os) else none
  | _ => none
def chkM (C : Nat) (m : Str) (fo : M O) : M O := fo.bind fun o => M.of (chkI C m o)
theorem lookup_no {m : Str} : ∀ {ns : List Str} {vs : List V}, ns.contains m = false → (ns.zip vs).lookup m = none
  | [], _, _ => rfl
  | n :: ns, [], _ => rfl
  | n :: ns, v :: vs, h => by
    rw [List.contains_cons, Bool.or_eq_false_iff] at h
    rw [List.zip_cons_cons, lookup_cons_if, h.1]
    exact lookup_no h.2
theorem chkI_ok {g : Gv} {H F : Hp} {C : Nat} {m : Str} {o o' : O} {v : V} {S : Addr → Prop} (le : Le F H) (e : chkI C m o = some o') (rep : RepO g H F o v S) : o' = o ∧ ∃ a dx fs, v = .ref a ∧ H a = some (.ins (g.ca C) dx fs) ∧ fs.lookup m = none := by
  unfold chkI at e
  split at e
  · split at e
    · rename_i h; obtain ⟨rfl, h2⟩ := h
      cases e
      rw [RepO, RepV] at rep
      obtain ⟨a, dx, vs, rfl, hl, ha, rv⟩ := rep
      exact ⟨rfl, a, dx, _, rfl, le _ _ ha, lookup_no h2⟩
    · cases e
  · split at e
    · rename_i h; obtain ⟨rfl, h2⟩ := h
      cases e
      rw [RepO] at rep
      obtain ⟨a, dx, vs, rfl, _, hl, ha, rv⟩ := rep
      exact ⟨rfl, a, dx, _, rfl, ha, lookup_no h2⟩
    · cases e
  · cases e
section
variable {W : WX} {X : Cx} {ca : Ca} {k : Nat} {f : Addr} {fd : FuncData} {ps : List Str} {ms : List Bool} {sem : M O} {m : Str} {p pos apos : Pos} {e o : Expr} {es : List Expr} {ks : List (Option Nat)} {fs : M (List O)} {fo : M O}
theorem e_meth {C : Nat} {pl : Sem Bool} (c : Cls X.K (ca C)) (hm : Meth X.K (ca C) m f) (Fo : FnOk X.prog X.w X.K X.mg X.base (L2.CX X.prog X.w) k f fd ps (spOf (gv X ca) (false :: ms) sem)) (hr : Room k X.A) (hb : Binds X.K fd ps []) (tk : Takes X W)
    (hms : ms.length = ks.length) (he : PE X o (T (gv X ca) W fo)) (ha : PA X (e :: es) (TLm (gv X ca) W ks fs))
    (hst : starEach (e :: es) X.env = (false, eval e X.env) :: starEach es X.env := by rfl) (hpl : (backTo pos (starEach es X.env)).any (·.1) = false := by rfl)
    (ht : eval (.Call (.Attribute o m apos) (e :: es) [] pos) X.env = (do
      let ov ← eval o X.env
      standAt apos.atName
      let (f, first) ← holding [ov] (getMethod ov m pl)
      callWith pos f first (backTo pos (starEach (e :: es) X.env)) (backToKw pos (keywordEach [] X.env))) := by rfl) :
    PE X (.Call (.Attribute o m apos) (e :: es) [] pos) (T (gv X ca) W (callF (none :: ks) (consA (chkM C m fo) fs) (false :: ms) sem)) :=
  PE.imp (pe_methSD (E := WE W) he c hm Fo hr hb (fun σ => passAt tk σ) ha hst hpl ht) fun σ H Q ⟨F, Gx, ρ, st, r⟩ => by
    have r0 := r.bind
    have r1 := Rn.bind (f := chkM C m fo) (k := fun o => fs.bind fun os => M.pure (o :: os)) r0
    have r2 := Rn.bind (f := fo) r1
    refine ⟨F, Gx, ρ, st, r2.mono fun o H1 F1 ρ1 le r3 v st1 => ?_⟩
    obtain ⟨o', eo, r4⟩ := r3.of
    obtain ⟨S, rep⟩ := st1.gd.view
    obtain ⟨rfl, a, dx, fs', rfl, ha, hlk⟩ := chkI_ok st1.le eo rep
    refine ⟨a, dx, fs', rfl, ha, hlk, ?_⟩
    obtain ⟨Gx', st1', back⟩ := st1.aside
    refine ⟨F1, Gx', ρ1, st1', ((r4 H1 F1 (Le.refl _)).aside fun H' F' ρ' le q => (back H' F' ρ' [] le q).drop1).bind.mono fun os H2 F2 ρ2 le2 r5 us vs hl mg st2 => ?_⟩
    exact call_run (ks := none :: ks) (ms := false :: ms) (us := .ref a :: us) (vs := .ref a :: vs) (by simp [hms]) (by simp [hl]) ⟨.ref a, us, vs, rfl, rfl, mg⟩ (back H2 F2 ρ2 _ le2 st2) (r5.pure H2 F2 (Le.refl _))
end
/-! lengths of argument lists -/
def LenA (fs : M (List O)) (n : Nat) : Prop := ∀ ρ os ρ', fs ρ = some (.ok os, ρ') → os.length = n
theorem len_nil : LenA nilA 0 := fun ρ os ρ' e => by cases e; rfl
theorem len_cons {f : M O} {fs : M (List O)} {n : Nat} (h : LenA fs n) : LenA (consA f fs) (n + 1) := fun ρ os ρ' e => by
  have e : (f.bind fun o => fs.bind fun os => M.pure (o :: os)) ρ = some (.ok os, ρ') := e
  cases h1 : f ρ with
  | none => simp [M.bind, h1] at e
  | some q =>
    obtain ⟨rz, ρ1⟩ := q
    cases rz with
    | ex x => simp [M.bind, h1] at e
    | ok o =>
      cases h2 : fs ρ1 with
      | none => simp [M.bind, h1, h2] at e
      | some q2 =>
        obtain ⟨rz2, ρ2⟩ := q2
        cases rz2 with
        | ex x => simp [M.bind, h1, h2] at e
        | ok os1 =>
          have e : (some (Rz.ok (o :: os1), ρ2) : Option (Rz (List O) × Sls)) = some (.ok os, ρ') := by
            simpa [M.bind, h1, h2, M.pure] using e
          cases e
          rw [List.length_cons, h _ _ _ h2]
end PF

set_option Elab.async false
set_option linter.all false
set_option maxRecDepth 100000
set_option maxHeartbeats 1000000
namespace PF
open PySem PySem.Spec PyProof.Rows L2
/-! ### a write inside of what a slot owns -/
section
variable {g : Gv} {H F Gx : Hp} {σ : L2.St} {ρ : Sls} {L A : List (V × O)}
/-- how a thing inside of a slot's own thing may be written -/
theorem StG.wrN {i : Nat} {o : O} {v : V} (st : StG g H F Gx σ ρ (A ++ L)) (hi : ρ[i]? = some (some o)) (hv : σ[i]? = some (some v)) :
    ∃ S1 SA, RepO g H F o v S1 ∧ RepL g H F A SA ∧ (∀ b, S1 b → SA b → False) ∧ ∀ (o' : O) (a : Addr) (u : HO), S1 a → RepO g (upd H a u) F o' v (fun b => S1 b ∨ SA b) → StG g (upd H a u) F Gx σ (ρ.set i (some o')) L := by
  obtain ⟨v, hv', st2⟩ := st.take hi
  rw [hv] at hv'; cases hv'
  have gd : Good g H F Gx ((v, o) :: (A ++ (L ++ slL σ (ρ.set i none)))) := by
    have z := st2.gd
    rw [List.cons_append, List.append_assoc] at z
    exact z
  obtain ⟨S, hT, hF, hG, hFG, hS, S1, S2, sp, r1, r2⟩ := gd.ex
  obtain ⟨SA, SL, sp2, rA, rL⟩ := RepL.split g A _ S2 r2
  refine ⟨S1, SA, r1, rA, fun b h1 h2 => sp.d b h1 (sp2.l b h2), fun o' a u ha ro => ?_⟩
  obtain ⟨nF, nG, _⟩ := hS a (sp.l a ha)
  have st3 : StG g (upd H a u) F Gx σ (ρ.set i none) ((v, o') :: L) := ⟨st2.wf, st2.len, S, hT.wr (sp.l a ha), fun b o e => by
      rw [upd_ne (fun q => by subst q; rw [nF] at e; cases e)]; exact hF b o e, fun b o e => by
      rw [upd_ne (fun q => by subst q; rw [nG] at e; cases e)]; exact hG b o e, hFG, fun b hb => by
      obtain ⟨x, y, z⟩ := hS b hb
      refine ⟨x, y, ?_⟩
      by_cases q : b = a
      · subst q; exact ⟨_, upd_same⟩
      · rw [upd_ne q]; exact z, fun b => S1 b ∨ SA b, SL, ⟨fun b hb => hb.elim (sp.l b) fun hb => sp.r b (sp2.l b hb), fun b hb => sp.r b (sp2.r b hb), fun b h1 h2 => h1.elim (fun h1 => sp.d b h1 (sp2.r b h2)) fun h1 => sp2.d b h1 h2⟩,
      ro, RepL.frame g (Le.refl F) _ SL SL (fun _ h => h) (fun b hb => upd_ne (fun e => sp.d a ha (by rw [← e]; exact sp2.r b hb))) rL⟩
  have hl := st.lt hi
  have st4 := st3.putback (i := i) hv (by simp [hl])
  rw [List.set_set] at st4
  exact st4
/-- one part of a row of parts, and what may be put in its place -/
theorem RepOs.sub : ∀ {os : List O} {vs : List V} {S : Addr → Prop} {j : Nat} {o1 : O}, RepOs g H F os vs S → os[j]? = some o1 → ∃ w S1, vs[j]? = some w ∧ (∀ b, S1 b → S b) ∧ RepO g H F o1 w S1 ∧
    ∀ (a : Addr) (u : HO) (o1' : O) (T : Addr → Prop), S1 a → (∀ b, S b → T b → False) → RepO g (upd H a u) F o1' w (fun b => S1 b ∨ T b) → RepOs g (upd H a u) F (os.set j o1') vs (fun b => S b ∨ T b)
  | [], vs, S, j, o1, r, e => by simp at e
  | o :: os, vs, S, 0, o1, r, e => by
    rw [RepOs] at r
    obtain ⟨v, r, S1, S2, rfl, sp, r1, r2⟩ := r
    simp at e
    subst e
    refine ⟨v, S1, rfl, sp.l, r1, fun a u o1' T ha hd ro => ?_⟩
    rw [List.set_cons_zero, RepOs]
    exact ⟨v, r, fun b => S1 b ∨ T b, S2, rfl, ⟨fun b h => h.elim (fun h => .inl (sp.l b h)) .inr, fun b h => .inl (sp.r b h), fun b h1 h2 => h1.elim (fun h1 => sp.d b h1 h2) (fun h1 => hd b (sp.r b h2) h1)⟩, ro,
      RepOs.frame g (Le.refl F) _ _ S2 S2 (fun _ h => h) (fun b hb => upd_ne (fun e => sp.d a ha (by rw [← e]; exact hb))) r2⟩
  | o :: os, vs, S, j + 1, o1, r, e => by
    rw [RepOs] at r
    obtain ⟨v, r, S1, S2, rfl, sp, r1, r2⟩ := r
    simp at e
    obtain ⟨w, T1, hw, hs, ro, q⟩ := RepOs.sub r2 e
    refine ⟨w, T1, by simpa using hw, fun b h => sp.r b (hs b h), ro, fun a u o1' T ha hd ro' => ?_⟩
    rw [List.set_cons_succ, RepOs]
    exact ⟨v, r, S1, fun b => S2 b ∨ T b, rfl, ⟨fun b h => .inl (sp.l b h), fun b h => h.elim (fun h => .inl (sp.r b h)) .inr, fun b h1 h2 => h2.elim (fun h2 => sp.d b h1 h2) (fun h2 => hd b (sp.l b h1) h2)⟩,
      RepO.frame g (Le.refl F) _ _ S1 S1 (fun _ h => h) (fun b hb => upd_ne (fun e => sp.d b hb (by rw [e]; exact hs a ha))) r1, q a u o1' T ha (fun b h1 h2 => hd b (sp.r b h1) h2) ro'⟩
end
end PF

set_option Elab.async false
set_option linter.all false
set_option maxRecDepth 100000
set_option maxHeartbeats 1000000
namespace PF
open PySem PySem.Spec PyProof.Rows L2
/-! ### self.f = e -/
def putNs (f : Str) : List Str → List Str
  | [] => [f]
  | n :: ns => if n = f then n :: ns else n :: putNs f ns
def putXs {α : Type} (f : Str) (v : α) : List Str → List α → List α
  | [], _ => [v]
  | n :: ns, o :: os => if n = f then v :: os else o :: putXs f v ns os
  | _ :: _, [] => []
def setFld (C : Nat) (f : Str) (v : O) : O → Option O
  | .ins c ns os => if c = C ∧ ns.length < 1000 then some (.ins c (putNs f ns) (putXs f v ns os)) else none
  | _ => none
def fldS (C i : Nat) (f : Str) (fe : M O) : M Out := fe.bind fun v => (upM i (setFld C f v)).bind fun _ => M.pure .nx
theorem zip_put {f : Str} {y : V} : ∀ {ns : List Str} {vs : List V}, ns.length = vs.length → putF f y (ns.zip vs) = (putNs f ns).zip (putXs f y ns vs) ∧ (putNs f ns).length = (putXs f y ns vs).length
  | [], [], _ => ⟨rfl, rfl⟩
  | [], _ :: _, h => by simp at h
  | _ :: _, [], h => by simp at h
  | n :: ns, v :: vs, h => by
    obtain ⟨a, b⟩ := zip_put (f := f) (y := y) (ns := ns) (vs := vs) (by simpa using h)
    rw [List.zip_cons_cons, putF, putNs, putXs]
    by_cases hn : n = f
    · rw [if_pos hn, if_pos hn, if_pos hn]
      exact ⟨rfl, h⟩
    · rw [if_neg hn, if_neg hn, if_neg hn, a]
      exact ⟨rfl, by simp [b]⟩
theorem RepOs.put {g : Gv} {H F : Hp} {f : Str} {v : O} {y : V} {T : Addr → Prop} (ro : RepO g H F v y T) : ∀ {ns : List Str} {os : List O} {vs : List V} {S : Addr → Prop}, ns.length = vs.length → RepOs g H F os vs S → (∀ b, S b → T b → False) → RepOs g H F (putXs f v ns os) (putXs f y ns vs) (fun b => S b ∨ T b)
  | [], os, vs, S, h, r, d => by
    have hv : vs = [] := List.eq_nil_of_length_eq_zero (by simpa using h.symm)
    subst hv
    rw [putXs, putXs, RepOs]
    exact ⟨y, [], T, fun _ => False, rfl, ⟨fun _ h => .inr h, fun _ h => h.elim, fun _ _ h => h⟩, ro, by rw [RepOs]⟩
  | n :: ns, [], vs, S, h, r, d => by rw [RepOs] at r; subst r; simp at h
  | n :: ns, o :: os, vs, S, h, r, d => by
    rw [RepOs] at r
    obtain ⟨w, ws, S1, S2, rfl, sp, r1, r2⟩ := r
    rw [putXs, putXs]
    by_cases hn : n = f
    · rw [if_pos hn, if_pos hn, RepOs]
      exact ⟨y, ws, T, S2, rfl, ⟨fun _ h => .inr h, fun b h => .inl (sp.r b h), fun b h1 h2 => d b (sp.r b h2) h1⟩, ro, r2⟩
    · rw [if_neg hn, if_neg hn, RepOs]
      exact ⟨w, _, S1, fun b => S2 b ∨ T b, rfl, ⟨fun b h => .inl (sp.l b h), fun b h => h.elim (fun h => .inl (sp.r b h)) .inr, fun b h1 h2 => h2.elim (sp.d b h1) (d b (sp.l b h1))⟩, r1, RepOs.put ro (by simpa using h) r2 fun b h1 h2 => d b (sp.r b h1) h2⟩
section
variable {W : WX} {pn : List Nat} {X : Cx} {ca : Ca} {o value : Expr} {f : Str} {pos pos' : Pos} {fe : M O}
theorem s_fld {C i : Nat} (ha : PE X o (tVar i)) (hv : PE X value (T (gv X ca) W fe)) (hC : Cls X.K (ca C)) (hn : NoAttr X.K (ca C) f) (hs : swapsWith value (some (.Attribute o f pos')) pos.line X.env = pure false := by rfl) :
    PS X (.Assign [.Attribute o f pos'] value pos) (Ts (gv X ca) W pn (fldS C i f fe)) :=
  PS.imp (ps_fld ha hv hs) fun D σ H ⟨F, Gx, ρ, st, r⟩ => by
    refine ⟨F, Gx, ρ, st, r.expr.mono fun v H1 F1 ρ1 le r1 y st1 => ?_⟩
    obtain ⟨o0, o1, hi, e, q⟩ := Rs.up r1.bind
    obtain ⟨x, _, hx, _⟩ := st1.peek hi
    obtain ⟨S1, SA, rr, rA, d, w⟩ := StG.wrN (A := [(y, v)]) (L := []) st1 hi hx
    cases o0 with
    | ins c ns os =>
      rw [setFld] at e
      split at e
      · rename_i hc
        obtain ⟨rfl, hlen⟩ := hc
        cases e
        rw [RepO] at rr
        obtain ⟨a, dx, vs, rfl, sa, hl, hq, rs⟩ := rr
        obtain ⟨z1, z2⟩ := zip_put (f := f) (y := y) hl
        refine ⟨.ref a, hx, a, _, dx, ns.zip vs, rfl, hq, hC, hn, by rw [List.length_zip]; omega, ?_⟩
        have st2 := w (.ins c (putNs f ns) (putXs f v ns os)) a (.ins (ca c) dx (putF f y (ns.zip vs))) sa (by
          rw [RepO]
          refine ⟨a, dx, putXs f y ns vs, rfl, .inl sa, z2, by rw [upd_same, z1], ?_⟩
          exact RepOs.wrote (RepOs.put (RepL.one rA) hl rs fun b h1 h2 => d b h1.1 h2) sa d)
        exact (q (upd H1 a (.ins (ca c) dx (putF f y (ns.zip vs)))) F1 σ (Le.refl _) (Pin.refl _)).pure _ F1 σ (Le.refl _) (Pin.refl _) st2
      · cases e
    | _ => cases e
end
end PF

set_option Elab.async false
set_option linter.all false
set_option maxRecDepth 100000
set_option maxHeartbeats 1000000
namespace PF
open PySem PySem.Spec PyProof.Rows L2
/-! ### self.f.append(name) -/
def idxS (f : Str) : List Str → Option Nat
  | [] => none
  | n :: ns => if (f == n) = true then some 0 else (idxS f ns).map (· + 1)
theorem idxS_look {f : Str} : ∀ {ns : List Str} {vs : List V} {j : Nat} {w : V}, idxS f ns = some j → vs[j]? = some w → (ns.zip vs).lookup f = some w
  | [], _, _, _, e, _ => by cases e
  | n :: ns, [], _, _, _, h => by simp at h
  | n :: ns, v :: vs, j, w, e, h => by
    rw [idxS] at e
    rw [List.zip_cons_cons, lookup_cons_if]
    split at e
    · rename_i hf
      cases e
      rw [if_pos hf]
      simpa using h
    · rename_i hf
      rw [if_neg hf]
      obtain ⟨i, hi, rfl⟩ := Option.map_eq_some_iff.mp e
      exact idxS_look hi (by simpa using h)
def pushFld (C : Nat) (f : Str) (v : O) : O → Option O
  | .ins c ns os => if c = C then (idxS f ns).bind fun j => (os[j]?).bind fun o => (pushO v o).map fun o' => .ins c ns (os.set j o') else none
  | _ => none
def appFldN (C i : Nat) (f : Str) (j : Nat) : M O := (pk j).bind fun v => match v with
  | .val d => (upM i (pushFld C f (.val d))).bind fun _ => M.pure (.val .non)
  | _ => M.stuck
section
variable {W : WX} {X : Cx} {ca : Ca} {a e : Expr} {f : Str} {fpos apos cpos : Pos}
theorem e_appFld {C : Nat} (i j : Nat) (ha : PE X a (tVar i)) (he : PE X e (tVar j)) (hC : Cls X.K (ca C)) (hn : NoAttr X.K (ca C) f) (hb : attributeBase a f X.env (eval a X.env) = eval a X.env := by rfl)
    (hbase : attributeBase (.Attribute a f fpos) "append" X.env (eval (.Attribute a f fpos) X.env) = eval (.Attribute a f fpos) X.env := by rfl)
    (hfew : ((backTo cpos (starEach [e] X.env)).all (fun x => !x.1) && (backToKw cpos (keywordEach [] X.env)).all (fun x => x.1.isSome)
      && decide (([e] : List Expr).length + ([] : List Keyword).length + (if ([] : List Keyword).isEmpty then 0 else 1) < 30)) = true := by rfl)
    (hline : (apos.endLine == cpos.line) = true := by rfl) (hs : starEach [e] X.env = (false, eval e X.env) :: starEach [] X.env := by rfl) (hplain : (backTo cpos (starEach [] X.env)).any (·.1) = false := by rfl) :
    PE X (.Call (.Attribute (.Attribute a f fpos) "append" apos) [e] [] cpos) (T (gv X ca) W (appFldN C i f j)) :=
  PE.imp (pe_bm PySem.F.plainAttrs_list PySem.F.slot_list_append PySem.F.type_list_append mt_append (pe_fld ha hb) (pa_cons he pa_nil hs) hbase hfew hline hs hplain) fun σ H Q ⟨F, Gx, ρ, st, r⟩ => by
    obtain ⟨v0, h0, r⟩ := r.pk
    obtain ⟨vv, S, hv, rv⟩ := st.peek h0
    cases v0 with
    | val d =>
      rw [RepO] at rv
      have st1 : StG (gv X ca) H F Gx σ ρ ([(vv, .val d)] ++ []) := st.ofVal rv
      obtain ⟨o1, o2, h1, h2, r2⟩ := Rn.up r
      obtain ⟨x, _, hx, _⟩ := st.peek h1
      obtain ⟨S1, SA, rr, rA, dd, w⟩ := StG.wrN (A := [(vv, .val d)]) (L := []) st1 h1 hx
      cases o1 with
      | ins c ns os =>
        rw [pushFld] at h2
        split at h2
        · rename_i hc; subst hc
          obtain ⟨k, hk, h2⟩ := Option.bind_eq_some_iff.mp h2
          obtain ⟨o3, h3, h2⟩ := Option.bind_eq_some_iff.mp h2
          obtain ⟨o4, h4, rfl⟩ := Option.map_eq_some_iff.mp h2
          rw [RepO] at rr
          obtain ⟨p, dx, vs, rfl, sa, hl, hq, rs⟩ := rr
          obtain ⟨u, T1, hu, hsub, ro3, put⟩ := RepOs.sub rs h3
          unfold pushO at h4
          split at h4
          · rename_i xs
            split at h4
            · rename_i hz
              cases h4
              rw [RepO] at ro3
              obtain ⟨l, ws, rfl, sl, hH, rws⟩ := ro3
              have hSl := (hsub l sl)
              have hw : ws.length = xs.length := rws.length
              have rsn := RepOs.snoc (T := SA) rws (RepL.one rA) fun b h1 h2 => dd b (hsub b h1.1).1 h2
              have rol : RepO (gv X ca) (upd H l (.lst (ws ++ [vv]))) F (.lst (xs ++ [.val d])) (.ref l) (fun b => T1 b ∨ SA b) := by
                rw [RepO]
                exact ⟨l, ws ++ [vv], rfl, .inl sl, upd_same, RepOs.wrote rsn sl fun b h1 h2 => dd b (hsub b h1).1 h2⟩
              have ro5 := put l (.lst (ws ++ [vv])) (.lst (xs ++ [.val d])) SA sl (fun b h1 h2 => dd b h1.1 h2) rol
              have st2 := w (.ins c ns (os.set k (.lst (xs ++ [.val d])))) l (.lst (ws ++ [vv])) hSl.1 (by
                rw [RepO]
                refine ⟨p, dx, vs, rfl, .inl sa, hl, by rw [upd_ne (Ne.symm hSl.2)]; exact hq, ?_⟩
                exact RepOs.sup _ (fun b hb => hb.elim (fun hb => ⟨.inl hb.1, hb.2⟩) (fun hb => ⟨.inr hb, fun e => dd p sa (by rw [← e]; exact hb)⟩)) ro5)
              refine ⟨_, hx, p, _, dx, ns.zip vs, .ref l, rfl, hq, hC, hn, idxS_look hk hu, .inl ⟨rfl, ws, SqL.of hH⟩, vv, hv, ?_⟩
              exact ⟨l, ws, vv, rfl, rfl, hH, by rw [hw]; exact lim_lt hz, (r2 (upd H l (.lst (ws ++ [vv])))).pure _ F (Le.refl _) .non (st2.ofVal repN)⟩
            · cases h4
          · cases h4
        · cases h2
      | _ => cases h2
    | _ => obtain ⟨_, _, e⟩ := r.run; cases e
end
end PF

set_option Elab.async false
set_option linter.all false
set_option maxRecDepth 100000
set_option maxHeartbeats 1000000
namespace PF
open PySem PySem.Spec PyProof.Rows L2
/-! ### laid aside, and seen to stay as it is -/
theorem Good.asideP {g : Gv} {H F Gx : Hp} {A B : List (V × O)} (h : Good g H F Gx (A ++ B)) : ∃ Gx' SB, RepL g H F B SB ∧ (∀ a, SB a → Gx' a = H a) ∧ Good g H F Gx' A ∧ ∀ H' F' A', Le F F' → Good g H' F' Gx' A' → Good g H' F' Gx (A' ++ B) := by
  classical
  obtain ⟨S, hT, hF, hG, hFG, hS, hL⟩ := h.ex
  obtain ⟨SA, SB, sp, rA, rB⟩ := RepL.split g A B S hL
  refine ⟨fun a => if SB a then H a else Gx a, SB, rB, fun a h => if_pos h, ⟨SA, fun p hp => ?_, hF, fun a o e => ?_, fun a o e => ?_, fun a h => ?_, rA⟩, fun H' F' A' hFF h' => ?_⟩
  · obtain ⟨t1, t2, t3, t4⟩ := hT p hp
    exact ⟨t1, by show (if SB p.1 then H p.1 else Gx p.1) = none; rw [if_neg (fun z => t3 (sp.r _ z))]; exact t2, fun z => t3 (sp.l _ z), t4⟩
  · by_cases hb : SB a
    · simpa [hb] using e
    · simp only [hb, if_false] at e; exact hG a o e
  · by_cases hb : SB a
    · exact (hS a (sp.r a hb)).1
    · simp only [hb, if_false] at e; exact hFG a o e
  · have nb : ¬ SB a := fun q => sp.d a h q
    simp only [nb, if_false]
    exact hS a (sp.l a h)
  · obtain ⟨S', hT', hF', hG', hFG', hS', hL'⟩ := h'.ex
    have key : ∀ a, SB a → H' a = H a ∧ F' a = none := fun a hb => by
      obtain ⟨_, _, o, ho⟩ := hS a (sp.r a hb)
      have q : (if SB a then H a else Gx a) = some o := by rw [if_pos hb]; exact ho
      exact ⟨(hG' a o q).trans ho.symm, hFG' a o q⟩
    have nb : ∀ a, S' a → ¬ SB a := fun a h hb => by
      obtain ⟨_, _, o, ho⟩ := hS a (sp.r a hb)
      have q := (hS' a h).2.1
      rw [if_pos hb, ho] at q
      cases q
    refine ⟨fun a => S' a ∨ SB a, fun p hp => ?_, hF', fun a o e => ?_, fun a o e => ?_, fun a h => ?_, ?_⟩
    · obtain ⟨t1, t2, t3, t4⟩ := hT' p hp
      obtain ⟨u1, u2, u3, u4⟩ := hT p hp
      exact ⟨t1, u2, fun z => z.elim t3 fun z => u3 (sp.r _ z), t4⟩
    · by_cases hb : SB a
      · rw [(hS a (sp.r a hb)).2.1] at e; cases e
      · exact hG' a o (by show (if SB a then H a else Gx a) = some o; rw [if_neg hb]; exact e)
    · by_cases hb : SB a
      · exact (key a hb).2
      · exact hFG' a o (by rw [if_neg hb]; exact e)
    · rcases h with h | h
      · obtain ⟨x, y, z⟩ := hS' a h
        rw [if_neg (nb a h)] at y
        exact ⟨x, y, z⟩
      · obtain ⟨x, y, z⟩ := hS a (sp.r a h)
        obtain ⟨k1, k2⟩ := key a h
        exact ⟨k2, y, by rw [k1]; exact z⟩
    · exact RepL.join g A' B _ S' SB ⟨fun a h => .inl h, fun a h => .inr h, fun a h1 h2 => nb a h1 h2⟩ hL' (RepL.frame g hFF B SB SB (fun _ h => h) (fun a h => (key a h).1) rB)
theorem StG.asideP {g : Gv} {H F Gx : Hp} {σ : L2.St} {ρ : Sls} {L : List (V × O)} (h : StG g H F Gx σ ρ L) : ∃ Gx' SB, RepL g H F L SB ∧ (∀ a, SB a → Gx' a = H a) ∧ StG g H F Gx' σ ρ [] ∧ ∀ H' F' ρ' L', Le F F' → StG g H' F' Gx' σ ρ' L' → StG g H' F' Gx σ ρ' (L ++ L') := by
  obtain ⟨Gx', SB, rB, hB, q, back⟩ := Good.asideP (A := slL σ ρ) (B := L) (h.gd.perm List.perm_append_comm)
  refine ⟨Gx', SB, rB, hB, ⟨h.wf, h.len, q⟩, fun H' F' ρ' L' le q' => ⟨q'.wf, q'.len, ?_⟩⟩
  have z := back H' F' _ le q'.gd
  refine z.perm ?_
  rw [List.append_assoc, List.append_assoc]
  exact (List.perm_append_comm.append_left L').trans (by rw [← List.append_assoc, ← List.append_assoc]; exact List.perm_append_comm.append_right _)
/-- what was laid aside stands as it stood -/
theorem StG.stays {g : Gv} {H H' F' Gx' : Hp} {σ : L2.St} {ρ' : Sls} {L' : List (V × O)} {SB : Addr → Prop} (hB : ∀ a, SB a → Gx' a = H a) (st : StG g H' F' Gx' σ ρ' L') {a : Addr} {u : HO} (ha : SB a) (e : H a = some u) : H' a = some u :=
  st.gd.leG a u ((hB a ha).trans e)
end PF

set_option Elab.async false
set_option linter.all false
set_option maxRecDepth 100000
set_option maxHeartbeats 1000000
namespace PF
open PySem PySem.Spec PyProof.Rows L2
/-! ### xs[j][k] = v -/
def row2 (o k : O) : Option (List O × Nat × List O) := match o, k with
  | .lst os, .val (.int n) => (ixN os.length n).bind fun j => match os[j]? with
    | some (.lst xs) => some (os, j, xs)
    | _ => none
  | _, _ => none
def sto2 (p : List O × Nat × List O) (k v : O) : Option O := match k with
  | .val (.int m) => (ixN p.2.2.length m).map fun q => .lst (p.1.set p.2.1 (.lst (p.2.2.set q v)))
  | _ => none
def sub2T (i : Nat) (fk1 fk2 : M O) : O → M Unit := fun v => (pk i).bind fun _ => fk1.bind fun k1 => (mv i).bind fun o => (M.of (row2 o k1)).bind fun p => fk2.bind fun k2 => (M.of (sto2 p k2 v)).bind fun o' => bk i o'
theorem row2_some {o k : O} {p : List O × Nat × List O} (h : row2 o k = some p) : ∃ n, o = .lst p.1 ∧ k = .val (.int n) ∧ ixN p.1.length n = some p.2.1 ∧ p.1[p.2.1]? = some (.lst p.2.2) := by
  unfold row2 at h
  split at h
  · rename_i os n
    obtain ⟨j, hj, h⟩ := Option.bind_eq_some_iff.mp h
    split at h
    · rename_i xs hx
      cases h
      exact ⟨n, rfl, rfl, hj, hx⟩
    · cases h
  · cases h
section
variable {g : Gv} {W : WX} {pn : List Nat} {β : Type}
theorem Rs.mv {i : Nat} {k : O → M β} {σ : L2.St} {F Gx : Hp} {ρ : Sls} {R : β → Hp → Hp → L2.St → Sls → Prop} (h : Rs g W pn ((PF.mv i).bind k) σ F Gx ρ R) : ∃ o, ρ[i]? = some (some o) ∧ Rs g W pn (k o) σ F Gx (ρ.set i none) R := by
  obtain ⟨r, ρ', e⟩ := h.run
  cases q : ρ[i]? with
  | none => simp [M.bind, PF.mv, q] at e
  | some s =>
    cases s with
    | none => simp [M.bind, PF.mv, q] at e
    | some o => exact ⟨o, rfl, h.bind.ok (a := o) (ρ' := ρ.set i none) (by simp [PF.mv, q]) F F σ (Le.refl F) (Pin.refl σ)⟩
theorem Rs.bk {i : Nat} {o : O} {σ : L2.St} {F Gx : Hp} {ρ : Sls} {R : Unit → Hp → Hp → L2.St → Sls → Prop} (h : Rs g W pn (PF.bk i o) σ F Gx ρ R) : ρ[i]? = some none ∧ ∀ H' F' σ', Le F F' → Pin pn σ σ' → R () H' F' σ' (ρ.set i (some o)) := by
  obtain ⟨r, ρ', e⟩ := h.run
  unfold PF.bk at e
  split at e
  · rename_i q
    exact ⟨q, h.ok (by simp [PF.bk, q])⟩
  · cases e
end
section
variable {W : WX} {pn : List Nat} {X : Cx} {ca : Ca} {a b1 b2 : Expr} {fk1 fk2 : M O} {pos p1 : Pos}
theorem g_sub2 (i : Nat) (ha : PE X a (tVar i)) (hb1 : PE X b1 (T (gv X ca) W fk1)) (hb2 : PE X b2 (T (gv X ca) W fk2)) (hs1 : PlainIx b1 := by exact fun _ _ => rfl)
    (hass : ∀ v, assign (.Subscript (.Subscript a b1 p1) b2 pos) X.env v = (do
      let ov ← holding [v] (eval (.Subscript a b1 p1) X.env)
      let iv ← holding [v, ov] (eval b2 X.env)
      standAt pos
      holding [v, ov, iv] (setItem ov iv v)
      release [v, ov, iv] []) := by intro _; rfl) : PG X (.Subscript (.Subscript a b1 p1) b2 pos) (Tg (gv X ca) W pn (sub2T i fk1 fk2)) :=
  PG.imp (pg_sub (pe_ix ix_list ha hb1 hs1) hb2 set_list hass) fun v σ H Q ⟨F, Gx, ρ, o, st, r⟩ => by
    obtain ⟨o0, h0, r⟩ := r.pk
    obtain ⟨x, hx⟩ := st.wf i o0 h0
    obtain ⟨Gx', st1, back⟩ := st.aside
    refine ⟨x, hx, F, Gx', ρ, st1, (Rn.aside (r.expr (H := H)) fun H' F' ρ' le q => (back H' F' ρ' [] le q).drop1).mono fun k1 H1 F1 ρ1 le1 r1 kv st2 => ?_⟩
    have st3 := back H1 F1 ρ1 _ le1 st2
    obtain ⟨o1, h1, r2⟩ := Rs.mv r1
    obtain ⟨x', hx', st4⟩ := st3.take h1
    rw [hx] at hx'; cases hx'
    obtain ⟨⟨os, j, xs⟩, ej, r3⟩ := (r2.expr (H := H1)).of
    obtain ⟨n, rfl, rfl, hj, hxs⟩ := row2_some ej
    simp only at hj hxs
    have ekv : kv = .int n := by
      have z := (st4.perm (L' := [(kv, .val (.int n)), (x, .lst os), (v, o)]) (List.perm_append_comm (l₁ := [(x, O.lst os), (v, o)]) (l₂ := [(kv, O.val (.int n))]))).gd.val
      rw [RepV] at z; exact z
    subst ekv
    obtain ⟨Gx2, SB, rB, hB, st5, back2⟩ := st4.asideP
    obtain ⟨S1, S2, sp, ro, _⟩ := rB
    simp only at ro
    rw [RepO] at ro
    obtain ⟨p, vs, rfl, sa, hH, rs⟩ := ro
    obtain ⟨w, T1, hw, hsub, ro3, _⟩ := RepOs.sub rs hxs
    rw [RepO] at ro3
    obtain ⟨l, ws, rfl, sl, hl, _⟩ := ro3
    have hlen : vs.length = os.length := rs.length
    refine ⟨p, vs, n, .ref l, rfl, rfl, SqL.of hH, by unfold L2.atI; rw [hlen, hj]; exact hw, F1, Gx2, ρ1.set i none, st5, (Rn.aside ((r3 H1 F1 (Le.refl _)).expr (H := H1)) fun H' F' ρ' le q => (back2 H' F' ρ' [] le q).drop1.drop1.drop1).mono fun k2 H2 F2 ρ2 le2 r4 kv2 st6 => ?_⟩
    have st7 := back2 H2 F2 ρ2 _ le2 st6
    have hHp : H2 p = some (.lst vs) := StG.stays hB st6 (sp.l p sa) hH
    have hHl : H2 l = some (.lst ws) := StG.stays hB st6 (sp.l l (hsub l sl).1) hl
    obtain ⟨o', eo, r5⟩ := (r4.expr (H := H2)).of
    unfold sto2 at eo
    split at eo
    · rename_i m
      obtain ⟨q, hq, rfl⟩ := Option.map_eq_some_iff.mp eo
      simp only at hq
      have ekv2 : kv2 = .int m := by
        have z := st6.gd.val (B := slL σ ρ2)
        rw [RepV] at z; exact z
      subst ekv2
      obtain ⟨hi, fin⟩ := Rs.bk (r5 H2 F2 (Le.refl _))
      have hil : i < ρ2.length := (List.getElem?_eq_some_iff.mp hi).1
      have st8 : StG (gv X ca) H2 F2 Gx σ (ρ2.set i (some (.lst os))) [(v, o), (.int n, .val (.int n)), (.int m, .val (.int m))] := st7.putback hx hi
      have st9 : StG (gv X ca) H2 F2 Gx σ (ρ2.set i (some (.lst os))) ([(v, o)] ++ []) := (st8.perm (L' := [(.int n, .val (.int n)), (.int m, .val (.int m)), (v, o)]) (List.perm_append_comm (l₁ := [(v, o)]) (l₂ := [(.int n, .val (.int n)), (.int m, .val (.int m))]))).drop1.drop1
      obtain ⟨S1', SA, rr, rA, dd, wr⟩ := StG.wrN (o := .lst os) (A := [(v, o)]) (L := []) st9 (by simp [hil]) hx
      rw [RepO] at rr
      obtain ⟨p', vs', e1, sa', hH', rs'⟩ := rr
      cases e1
      rw [hHp] at hH'; cases hH'
      obtain ⟨w', T', hw', hsub', ro', put⟩ := RepOs.sub rs' hxs
      rw [hw] at hw'; cases hw'
      rw [RepO] at ro'
      obtain ⟨l', ws', e2, sl', hl', rws'⟩ := ro'
      cases e2
      rw [hHl] at hl'; cases hl'
      have hwl : ws.length = xs.length := rws'.length
      have hSl := hsub' l sl'
      have rset := RepOs.set q rws' (RepL.one rA) fun b h1 h2 => dd b (hsub' b h1.1).1 h2
      have rol : RepO (gv X ca) (upd H2 l (.lst (ws.set q v))) F2 (.lst (xs.set q o)) (.ref l) (fun b => T' b ∨ SA b) := by
        rw [RepO]
        exact ⟨l, ws.set q v, rfl, .inl sl', upd_same, RepOs.wrote rset sl' fun b h1 h2 => dd b (hsub' b h1).1 h2⟩
      have ro5 := put l (.lst (ws.set q v)) (.lst (xs.set q o)) SA sl' (fun b h1 h2 => dd b h1.1 h2) rol
      have st10 := wr (.lst (os.set j (.lst (xs.set q o)))) l (.lst (ws.set q v)) hSl.1 (by
        rw [RepO]
        exact ⟨p, vs, rfl, .inl sa', by rw [upd_ne (Ne.symm hSl.2)]; exact hHp, RepOs.sup _ (fun b hb => hb.elim (fun hb => ⟨.inl hb.1, hb.2⟩) (fun hb => ⟨.inr hb, fun e => dd p sa' (by rw [← e]; exact hb)⟩)) ro5⟩)
      rw [List.set_set] at st10
      exact ⟨l, ws, m, q, rfl, rfl, hHl, by rw [hwl]; exact hq, fin _ F2 σ (Le.refl _) (Pin.refl _) st10⟩
    · cases eo
end
end PF

set_option Elab.async false
set_option linter.all false
set_option maxRecDepth 100000
set_option maxHeartbeats 1000000
namespace PF
open PySem PySem.Spec PyProof.Rows L2
theorem get_list {X : Cx} : PGet X (rIxL X.K) := by
  intro pins s σ H x y v u Q I rx ry h
  obtain ⟨p, xs, i, z, rfl, rfl, hq, he, q⟩ := h
  cases rx
  obtain ⟨t, rfl⟩ := ry
  obtain ⟨its, r, pl, hz⟩ := I.list hq
  obtain ⟨j, h1, h2, h3, h4, h5⟩ := atI_get he
  obtain ⟨w, ew, rw'⟩ := r.get h2
  have hl := r.length
  have hn := line63
  have fin : EP X pins σ Q w s := ⟨z, H, I, rw', q⟩
  by_cases h0 : 0 ≤ i
  · have hj : i.toNat = j := by
      rw [seqIndex_of h0 h5] at h1
      exact Option.some.inj h1
    exact wpAny_getItem_list pl.isList h0 (by omega) (by rw [hj]; simpa using ew) fin
  · have hj : (i + (its.toArray.size : Int)).toNat = j := by
      rw [seqIndex_neg (by omega) h4] at h1
      rw [List.size_toArray, ← hl]
      exact Option.some.inj h1
    exact wpAny_getItem_list_neg pl.isList (by omega) (by rw [List.size_toArray] <;> omega) (by omega) (by rw [hj]; simpa using ew) fin
/-! ### xs[j][k] += c -/
def aug2 (p : List O × Nat × List O) (k : O) (c : Int) : Option O := match k with
  | .val (.int m) => (ixN p.2.2.length m).bind fun q => match p.2.2[q]? with
    | some (.val (.int z)) => some (.lst (p.1.set p.2.1 (.lst (p.2.2.set q (.val (.int (z + c)))))))
    | _ => none
  | _ => none
def aug2S (i : Nat) (fk1 fk2 : M O) (c : Int) : M Out := (pk i).bind fun _ => fk1.bind fun k1 => (mv i).bind fun o => (M.of (row2 o k1)).bind fun p => fk2.bind fun k2 => (M.of (aug2 p k2 c)).bind fun o' => (bk i o').bind fun _ => M.pure .nx
section
variable {W : WX} {pn : List Nat} {X : Cx} {ca : Ca} {a b1 b2 e : Expr} {fk1 fk2 : M O} {pos p1 tpos : Pos} {c : Int}
theorem s_aug2 (i : Nat) (ha : PE X a (tVar i)) (hb1 : PE X b1 (T (gv X ca) W fk1)) (hb2 : PE X b2 (T (gv X ca) W fk2)) (he : PE X e (tC (.int c))) (hs1 : PlainIx b1 := by exact fun _ _ => rfl)
    (hass : ∀ ov iv new, augStore b2 ov iv new = (do holding [new, ov, iv] (setItem ov iv new); release [new, ov, iv] []; pure .next) := by intros; rfl) :
    PS X (.AugAssign (.Subscript (.Subscript a b1 p1) b2 tpos) .Add e pos) (Ts (gv X ca) W pn (aug2S i fk1 fk2 c)) :=
  PS.imp (ps_augS (pe_ix ix_list ha hb1 hs1) hb2 get_list he ip_add set_list hass) fun D σ H ⟨F, Gx, ρ, st, r⟩ => by
    obtain ⟨o0, h0, r⟩ := r.pk
    obtain ⟨x, hx⟩ := st.wf i o0 h0
    refine ⟨x, hx, F, Gx, ρ, st, (r.expr (H := H)).mono fun k1 H1 F1 ρ1 le1 r1 kv st3 => ?_⟩
    obtain ⟨o1, h1, r2⟩ := Rs.mv r1
    obtain ⟨x', hx', st4⟩ := st3.take h1
    rw [hx] at hx'; cases hx'
    obtain ⟨⟨os, j, xs⟩, ej, r3⟩ := (r2.expr (H := H1)).of
    obtain ⟨n, rfl, rfl, hj, hxs⟩ := row2_some ej
    simp only at hj hxs
    have ekv : kv = .int n := by
      have z := (st4.perm (L' := [(kv, .val (.int n)), (x, .lst os)]) (.swap _ _ _)).gd.val
      rw [RepV] at z; exact z
    subst ekv
    obtain ⟨Gx2, SB, rB, hB, st5, back2⟩ := st4.asideP
    obtain ⟨S1, S2, sp, ro, _⟩ := rB
    simp only at ro
    rw [RepO] at ro
    obtain ⟨p, vs, rfl, sa, hH, rs⟩ := ro
    obtain ⟨w, T1, hw, hsub, ro3, _⟩ := RepOs.sub rs hxs
    rw [RepO] at ro3
    obtain ⟨l, ws, rfl, sl, hl, _⟩ := ro3
    have hlen : vs.length = os.length := rs.length
    refine ⟨p, vs, n, .ref l, rfl, rfl, SqL.of hH, by unfold L2.atI; rw [hlen, hj]; exact hw, F1, Gx2, ρ1.set i none, st5, (Rn.aside ((r3 H1 F1 (Le.refl _)).expr (H := H1)) fun H' F' ρ' le q => (back2 H' F' ρ' [] le q).drop1.drop1).mono fun k2 H2 F2 ρ2 le2 r4 kv2 st6 => ?_⟩
    have st7 := back2 H2 F2 ρ2 _ le2 st6
    have hHp : H2 p = some (.lst vs) := StG.stays hB st6 (sp.l p sa) hH
    have hHl : H2 l = some (.lst ws) := StG.stays hB st6 (sp.l l (hsub l sl).1) hl
    obtain ⟨o', eo, r5⟩ := (r4.expr (H := H2)).of
    unfold aug2 at eo
    split at eo
    · rename_i m
      obtain ⟨q, hq, eo⟩ := Option.bind_eq_some_iff.mp eo
      simp only at hq eo
      split at eo
      · rename_i z hz
        cases eo
        have ekv2 : kv2 = .int m := by
          have z := st6.gd.val (B := slL σ ρ2)
          rw [RepV] at z; exact z
        subst ekv2
        obtain ⟨hi, fin⟩ := Rs.bk (r5 H2 F2 (Le.refl _)).bind
        have hil : i < ρ2.length := (List.getElem?_eq_some_iff.mp hi).1
        have st8 : StG (gv X ca) H2 F2 Gx σ (ρ2.set i (some (.lst os))) [(.int n, .val (.int n)), (.int m, .val (.int m))] := st7.putback hx hi
        have st9 : StG (gv X ca) H2 F2 Gx σ (ρ2.set i (some (.lst os))) ([] ++ []) := st8.drop1.drop1
        obtain ⟨S1', SA, rr, rA, dd, wr⟩ := StG.wrN (o := .lst os) (A := []) (L := []) st9 (by simp [hil]) hx
        rw [RepO] at rr
        obtain ⟨p', vs', e1, sa', hH', rs'⟩ := rr
        cases e1
        rw [hHp] at hH'; cases hH'
        obtain ⟨w', T', hw', hsub', ro', put⟩ := RepOs.sub rs' hxs
        rw [hw] at hw'; cases hw'
        rw [RepO] at ro'
        obtain ⟨l', ws', e2, sl', hl', rws'⟩ := ro'
        cases e2
        rw [hHl] at hl'; cases hl'
        have hwl : ws.length = xs.length := rws'.length
        obtain ⟨wz, _, hwz, _, roz, _⟩ := RepOs.sub rws' hz
        rw [RepO, RepV] at roz
        subst roz
        have hSl := hsub' l sl'
        have rset := RepOs.set (T := fun _ => False) (o := .val (.int (z + c))) (v := .int (z + c)) q rws' (by rw [RepO, RepV]) fun b _ h2 => h2.elim
        have rol : RepO (gv X ca) (upd H2 l (.lst (ws.set q (.int (z + c))))) F2 (.lst (xs.set q (.val (.int (z + c))))) (.ref l) (fun b => T' b ∨ False) := by
          rw [RepO]
          exact ⟨l, ws.set q (.int (z + c)), rfl, .inl sl', upd_same, RepOs.wrote rset sl' fun b _ h2 => h2⟩
        have ro5 := put l (.lst (ws.set q (.int (z + c)))) (.lst (xs.set q (.val (.int (z + c))))) (fun _ => False) sl' (fun b _ h2 => h2) rol
        have st10 := wr (.lst (os.set j (.lst (xs.set q (.val (.int (z + c))))))) l (.lst (ws.set q (.int (z + c)))) hSl.1 (by
          rw [RepO]
          exact ⟨p, vs, rfl, .inl sa', by rw [upd_ne (Ne.symm hSl.2)]; exact hHp, RepOs.sup _ (fun b hb => hb.elim (fun hb => ⟨.inl hb.1, hb.2⟩) (fun hb => hb.elim)) ro5⟩)
        rw [List.set_set] at st10
        refine ⟨l, ws, m, .int z, rfl, rfl, SqL.of hHl, by unfold L2.atI; rw [hwl, hq]; exact hwz, z, c, rfl, rfl, l, ws, m, q, rfl, rfl, hHl, by rw [hwl]; exact hq, ?_⟩
        exact (fin H2 F2 σ (Le.refl _) (Pin.refl _)).pure _ F2 σ (Le.refl _) (Pin.refl _) st10
      · cases eo
    · cases eo
end
end PF

set_option Elab.async false
set_option linter.all false
set_option maxRecDepth 100000
set_option maxHeartbeats 1000000
namespace PF
open PySem PySem.Spec PyProof.Rows L2
/-! ### what is handed on, frozen -/
def frzM (f : M O) : M O := f.bind fun o => M.pure (.val (fz o))
section
variable {g : Gv} {W : WX} {X : Cx} {e : Expr} {f : M O}
theorem e_frz (he : PE X e (T g W f)) : PE X e (T g W (frzM f)) :=
  PE.imp he fun σ H Q ⟨F, Gx, ρ, st, r⟩ => ⟨F, Gx, ρ, st, r.bind.mono fun o H1 F1 ρ1 le r1 v st1 => by
    obtain ⟨F2, le2, st2⟩ := st1.freeze
    exact r1.pure H1 F2 le2 v st2⟩
end
end PF

set_option Elab.async false
set_option linter.all false
set_option maxRecDepth 100000
set_option maxHeartbeats 1000000
namespace PF
open PySem PySem.Spec PyProof.Rows L2
/-! ### own classes -/
/-- a class whose instances may be made -/
structure OwnI (P : Program) (w : World) (K : PySem.W.Frag) (mg : Str → Option Value) (base : Heap) (ca : Ca) (C k : Nat) (x : Str) (ps : List Str) (ms : List Bool) (sem : M O) : Prop where
  ex : ∃ f fd, mg x = some (.ref (ca C)) ∧ Mk K (ca C) f ∧ Binds K fd ps [] ∧ FnOk P w K mg base (L2.CX P w) k f fd ps (spOf ⟨P, w, K, ca⟩ (true :: ms) sem)
/-- a method that may be called -/
structure OwnM (P : Program) (w : World) (K : PySem.W.Frag) (mg : Str → Option Value) (base : Heap) (ca : Ca) (C k : Nat) (m : Str) (ps : List Str) (ms : List Bool) (sem : M O) : Prop where
  ex : ∃ f fd, Cls K (ca C) ∧ Meth K (ca C) m f ∧ Binds K fd ps [] ∧ FnOk P w K mg base (L2.CX P w) k f fd ps (spOf ⟨P, w, K, ca⟩ ms sem)
section
variable {W : WX} {X : Cx} {ca : Ca} {C k j : Nat} {x m : Str} {ps : List Str} {ms : List Bool} {sem : M O} {p pos apos : Pos} {e o : Expr} {es : List Expr} {ks : List (Option Nat)} {fs : M (List O)} {fo : M O}
theorem e_ownI (Ow : OwnI X.prog X.w X.K X.mg X.base ca C k x ps ms sem) (hr : Room j X.A) (hj : k + 1 ≤ j) (tk : Takes X W) (hms : ms.length = (e :: es).length) (hfs : LenA fs (e :: es).length) (ha : PA X (e :: es) (TL (gv X ca) W fs)) (hg : Gl X x := by rfl)
    (hdb : (x == ("__debug__" : Str)) = false := by decide) (he : starEach (e :: es) X.env = (false, eval e X.env) :: starEach es X.env := by rfl) (hpl : (backTo pos (starEach es X.env)).any (·.1) = false := by rfl) :
    PE X (.Call (.Name x p) (e :: es) [] pos) (T (gv X ca) W (makeF C fs sem)) := by
  obtain ⟨f, fd, hm, M, hb, Fo⟩ := Ow.ex
  exact e_make M Fo (hr.mono hj) hg hm hb tk hms hfs ha hdb he hpl
theorem e_ownM {pl : Sem Bool} (Ow : OwnM X.prog X.w X.K X.mg X.base ca C k m ps (false :: ms) sem) (hr : Room j X.A) (hj : k ≤ j) (tk : Takes X W) (hms : ms.length = ks.length) (he : PE X o (T (gv X ca) W fo)) (ha : PA X (e :: es) (TLm (gv X ca) W ks fs))
    (hst : starEach (e :: es) X.env = (false, eval e X.env) :: starEach es X.env := by rfl) (hpl : (backTo pos (starEach es X.env)).any (·.1) = false := by rfl)
    (ht : eval (.Call (.Attribute o m apos) (e :: es) [] pos) X.env = (do
      let ov ← eval o X.env
      standAt apos.atName
      let (f, first) ← holding [ov] (getMethod ov m pl)
      callWith pos f first (backTo pos (starEach (e :: es) X.env)) (backToKw pos (keywordEach [] X.env))) := by rfl) :
    PE X (.Call (.Attribute o m apos) (e :: es) [] pos) (T (gv X ca) W (callF (none :: ks) (consA (chkM C m fo) fs) (false :: ms) sem)) := by
  obtain ⟨f, fd, hC, hM, hb, Fo⟩ := Ow.ex
  exact e_meth hC hM Fo (hr.mono hj) hb tk hms he ha hst hpl ht
end
end PF

set_option Elab.async false
set_option linter.all false
set_option maxRecDepth 100000
set_option maxHeartbeats 1000000
namespace PF
open PySem PySem.Spec PyProof.Rows L2
/-! ### xs[j][k], of an owned list of owned lists -/
def get2 (p : List O × Nat × List O) (k : O) : Option O := match k with
  | .val (.int m) => (ixN p.2.2.length m).bind fun q => match p.2.2[q]? with
    | some (.val d) => some (.val d)
    | _ => none
  | _ => none
def ix2F (i : Nat) (fk1 fk2 : M O) : M O := (pk i).bind fun _ => fk1.bind fun k1 => (mv i).bind fun o => (M.of (row2 o k1)).bind fun p => fk2.bind fun k2 => (M.of (get2 p k2)).bind fun v => (bk i o).bind fun _ => M.pure v
section
variable {g : Gv} {W : WX} {β : Type}
theorem Rn.mv {i : Nat} {k : O → M β} {σ : L2.St} {H F Gx : Hp} {ρ : Sls} {R : β → Hp → Hp → Sls → Prop} (h : Rn g W ((PF.mv i).bind k) σ H F Gx ρ R) : ∃ o, ρ[i]? = some (some o) ∧ Rn g W (k o) σ H F Gx (ρ.set i none) R := by
  obtain ⟨r, ρ', e⟩ := h.run
  cases q : ρ[i]? with
  | none => simp [M.bind, PF.mv, q] at e
  | some s =>
    cases s with
    | none => simp [M.bind, PF.mv, q] at e
    | some o => exact ⟨o, rfl, h.bind.ok (a := o) (ρ' := ρ.set i none) (by simp [PF.mv, q]) H F (Le.refl F)⟩
theorem Rn.bk {i : Nat} {o : O} {σ : L2.St} {H F Gx : Hp} {ρ : Sls} {R : Unit → Hp → Hp → Sls → Prop} (h : Rn g W (PF.bk i o) σ H F Gx ρ R) : ρ[i]? = some none ∧ ∀ H' F', Le F F' → R () H' F' (ρ.set i (some o)) := by
  obtain ⟨r, ρ', e⟩ := h.run
  unfold PF.bk at e
  split at e
  · rename_i q
    exact ⟨q, h.ok (by simp [PF.bk, q])⟩
  · cases e
end
section
variable {W : WX} {X : Cx} {ca : Ca} {a b1 b2 : Expr} {fk1 fk2 : M O} {pos p1 : Pos}
theorem e_ix2 (i : Nat) (ha : PE X a (tVar i)) (hb1 : PE X b1 (T (gv X ca) W fk1)) (hb2 : PE X b2 (T (gv X ca) W fk2)) (hs1 : PlainIx b1 := by exact fun _ _ => rfl) (hs2 : PlainIx b2 := by exact fun _ _ => rfl) :
    PE X (.Subscript (.Subscript a b1 p1) b2 pos) (T (gv X ca) W (ix2F i fk1 fk2)) :=
  PE.imp (pe_ix ix_list (pe_ix ix_list ha hb1 hs1) hb2 hs2) fun σ H Q ⟨F, Gx, ρ, st, r⟩ => by
    obtain ⟨o0, h0, r⟩ := r.pk
    obtain ⟨x, hx⟩ := st.wf i o0 h0
    refine ⟨x, hx, F, Gx, ρ, st, r.bind.mono fun k1 H1 F1 ρ1 le1 r1 kv st3 => ?_⟩
    obtain ⟨o1, h1, r2⟩ := Rn.mv r1
    obtain ⟨x', hx', st4⟩ := st3.take h1
    rw [hx] at hx'; cases hx'
    obtain ⟨⟨os, j, xs⟩, ej, r3⟩ := r2.bind.of
    obtain ⟨n, rfl, rfl, hj, hxs⟩ := row2_some ej
    simp only at hj hxs
    have ekv : kv = .int n := by
      have z := (st4.perm (L' := [(kv, .val (.int n)), (x, .lst os)]) (.swap _ _ _)).gd.val
      rw [RepV] at z; exact z
    subst ekv
    obtain ⟨Gx2, SB, rB, hB, st5, back2⟩ := st4.asideP
    obtain ⟨S1, S2, sp, ro, _⟩ := rB
    simp only at ro
    rw [RepO] at ro
    obtain ⟨p, vs, rfl, sa, hH, rs⟩ := ro
    obtain ⟨w, T1, hw, hsub, ro3, _⟩ := RepOs.sub rs hxs
    rw [RepO] at ro3
    obtain ⟨l, ws, rfl, sl, hl, rws⟩ := ro3
    have hlen : vs.length = os.length := rs.length
    refine ⟨p, vs, n, .ref l, rfl, rfl, SqL.of hH, by unfold L2.atI; rw [hlen, hj]; exact hw, F1, Gx2, ρ1.set i none, st5, (Rn.aside (r3 H1 F1 (Le.refl _)) fun H' F' ρ' le q => (back2 H' F' ρ' [] le q).drop1.drop1).bind.mono fun k2 H2 F2 ρ2 le2 r4 kv2 st6 => ?_⟩
    have st7 := back2 H2 F2 ρ2 _ le2 st6
    have hHl : H2 l = some (.lst ws) := StG.stays hB st6 (sp.l l (hsub l sl).1) hl
    obtain ⟨o', eo, r5⟩ := r4.bind.of
    unfold get2 at eo
    split at eo
    · rename_i m
      obtain ⟨q, hq, eo⟩ := Option.bind_eq_some_iff.mp eo
      simp only at hq eo
      split at eo
      · rename_i d hz
        cases eo
        have ekv2 : kv2 = .int m := by
          have z := st6.gd.val (B := slL σ ρ2)
          rw [RepV] at z; exact z
        subst ekv2
        obtain ⟨hi, fin⟩ := Rn.bk (r5 H2 F2 (Le.refl _)).bind
        have hil : i < ρ2.length := (List.getElem?_eq_some_iff.mp hi).1
        have st8 : StG (gv X ca) H2 F2 Gx σ (ρ2.set i (some (.lst os))) [(.int n, .val (.int n)), (.int m, .val (.int m))] := st7.putback hx hi
        have st9 : StG (gv X ca) H2 F2 Gx σ (ρ2.set i (some (.lst os))) [] := st8.drop1.drop1
        have hwl : ws.length = xs.length := rws.length
        obtain ⟨wz, _, hwz, _, roz, _⟩ := RepOs.sub rws hz
        rw [RepO] at roz
        have rv2 : RepV (gv X ca) F2 d wz := RepV.mono _ le2 d wz roz
        exact ⟨l, ws, m, wz, rfl, rfl, SqL.of hHl, by unfold L2.atI; rw [hwl, hq]; exact hwz, (fin H2 F2 (Le.refl _)).pure H2 F2 (Le.refl _) wz (st9.ofVal rv2)⟩
      · cases eo
    · cases eo
end
end PF

set_option Elab.async false
set_option linter.all false
set_option maxRecDepth 100000
set_option maxHeartbeats 1000000
namespace PF
open PySem PySem.Spec PyProof.Rows L2
/-! ### a block within a block: what is asked, by running it -/
def blkB (N : List Str) (sc scope : Scope) (own : List (Str × Nat)) : Bool :=
  (match scope.kind with | .function => true | _ => false) && (scope.names.all fun y => decide (scope.names.lookup y.1 = some y.2)) && (own.all fun p => decide (N[p.2]? = some p.1)) &&
  (scope.names.all fun y => match y.2 with
    | .free => (match sc.names.lookup y.1 with
      | some .cell => true
      | some .free => true
      | _ => false)
    | _ => true) &&
  (scope.names.all fun y => match y.2 with
    | .local => decide (y.1 ∈ own.map (·.1) ∨ y.1 ∉ N)
    | .cell => decide (y.1 ∈ own.map (·.1) ∨ y.1 ∉ N)
    | _ => true)
theorem blk_by {N : List Str} {sc scope : Scope} {own : List (Str × Nat)} (h : blkB N sc scope own = true) : BlkOk N sc scope own := by
  unfold blkB at h
  rw [Bool.and_eq_true, Bool.and_eq_true, Bool.and_eq_true, Bool.and_eq_true, List.all_eq_true, List.all_eq_true, List.all_eq_true, List.all_eq_true] at h
  obtain ⟨⟨⟨⟨h1, h2⟩, h3⟩, h4⟩, h5⟩ := h
  refine ⟨?_, fun y hy => by simpa using h2 y hy, fun p hp => by simpa using h3 p hp, fun y hy e => ?_, fun y hy e => ?_⟩
  · cases k : scope.kind <;> rw [k] at h1 <;> first | rfl | cases h1
  · have q := h4 y hy
    rw [e] at q
    simp only at q
    split at q
    · rename_i z; exact .inl z
    · rename_i z; exact .inr z
    · cases q
  · have q := h5 y hy
    rcases e with e | e <;> rw [e] at q <;> simpa using q
end PF

set_option Elab.async false
set_option linter.all false
set_option maxRecDepth 100000
set_option maxHeartbeats 1000000
namespace PF
open PySem PySem.Spec PyProof.Rows L2
/-! ### the calculus for classes, nested lists -/
section
variable {ρ : Sls}
theorem ev_make {C : Nat} {fs : M (List O)} {sem : M O} {R : O → Sls → Prop} : Ev (makeF C fs sem) ρ R ↔ Ev fs ρ fun os ρ1 => Ev sem (some (.ins C [] []) :: os.map some) fun o c => o = .val .non ∧ ∃ o1 c', c = some o1 :: c' ∧ R o1 ρ1 := by
  unfold makeF
  refine Iff.trans (ev_bind (f := fs)) ?_
  constructor
  · refine fun h => h.mono fun os ρ1 ⟨a, ρ', e, r⟩ => ?_
    simp only at e
    cases q : sem (some (.ins C [] []) :: os.map some) with
    | none => simp [q] at e
    | some p =>
      obtain ⟨rz, c⟩ := p
      simp only [q] at e
      split at e
      · rename_i o1 c' z
        cases e
        cases z
        exact ⟨_, _, q, rfl, _, _, rfl, r⟩
      · cases e
      · cases e
  · refine fun h => h.mono fun os ρ1 ⟨a, c, e, r1, o1, c', r2, r⟩ => ?_
    subst r1 r2
    exact ⟨o1, ρ1, by simp only [e], r⟩
theorem ev_frz {f : M O} {R : O → Sls → Prop} : Ev (frzM f) ρ R ↔ Ev f ρ fun o ρ1 => R (.val (fz o)) ρ1 := by
  unfold frzM
  rw [ev_bind]
  exact ⟨fun h => h.mono fun o ρ1 r => ev_pure.mp r, fun h => h.mono fun o ρ1 r => ev_pure.mpr r⟩
theorem ev_mv0 {i : Nat} {R : O → Sls → Prop} {o : O} (h : ρ[i]? = some (some o)) (q : R o (ρ.set i none)) : Ev (mv i) ρ R := ⟨o, _, by unfold mv; rw [h], q⟩
theorem ev_bk0 {i : Nat} {R : Unit → Sls → Prop} {o : O} (h : ρ[i]? = some none) (q : R () (ρ.set i (some o))) : Ev (bk i o) ρ R := ⟨(), _, by unfold bk; rw [h], q⟩
theorem ev_ix2 {i : Nat} {fk1 fk2 : M O} {R : O → Sls → Prop} (q : ∃ o, ρ[i]? = some (some o) ∧ Ev fk1 ρ fun k1 ρ1 => ∃ o1 p, ρ1[i]? = some (some o1) ∧ row2 o1 k1 = some p ∧ Ev fk2 (ρ1.set i none) fun k2 ρ2 => ∃ z, get2 p k2 = some z ∧ ρ2[i]? = some none ∧ R z (ρ2.set i (some o1))) : Ev (ix2F i fk1 fk2) ρ R := by
  obtain ⟨o, h, q⟩ := q
  unfold ix2F
  refine ev_bind.mpr (ev_pk.mpr ⟨o, h, ev_bind.mpr (q.mono fun k1 ρ1 ⟨o1, p, h1, h2, q⟩ => ?_)⟩)
  refine ev_bind.mpr (ev_mv0 h1 (ev_bind.mpr (ev_of.mpr ⟨p, h2, ev_bind.mpr (q.mono fun k2 ρ2 ⟨z, h3, h4, q⟩ => ?_)⟩)))
  exact ev_bind.mpr (ev_of.mpr ⟨z, h3, ev_bind.mpr (ev_bk0 h4 (ev_pure.mpr q))⟩)
theorem ev_sub2 {i : Nat} {fk1 fk2 : M O} {v : O} {R : Unit → Sls → Prop} (q : ∃ o, ρ[i]? = some (some o) ∧ Ev fk1 ρ fun k1 ρ1 => ∃ o1 p, ρ1[i]? = some (some o1) ∧ row2 o1 k1 = some p ∧ Ev fk2 (ρ1.set i none) fun k2 ρ2 => ∃ o2, sto2 p k2 v = some o2 ∧ ρ2[i]? = some none ∧ R () (ρ2.set i (some o2))) : Ev (sub2T i fk1 fk2 v) ρ R := by
  obtain ⟨o, h, q⟩ := q
  unfold sub2T
  refine ev_bind.mpr (ev_pk.mpr ⟨o, h, ev_bind.mpr (q.mono fun k1 ρ1 ⟨o1, p, h1, h2, q⟩ => ?_)⟩)
  refine ev_bind.mpr (ev_mv0 h1 (ev_bind.mpr (ev_of.mpr ⟨p, h2, ev_bind.mpr (q.mono fun k2 ρ2 ⟨o2, h3, h4, q⟩ => ?_)⟩)))
  exact ev_bind.mpr (ev_of.mpr ⟨o2, h3, ev_bk0 h4 q⟩)
theorem ev_aug2 {i : Nat} {fk1 fk2 : M O} {c : Int} {R : Out → Sls → Prop} (q : ∃ o, ρ[i]? = some (some o) ∧ Ev fk1 ρ fun k1 ρ1 => ∃ o1 p, ρ1[i]? = some (some o1) ∧ row2 o1 k1 = some p ∧ Ev fk2 (ρ1.set i none) fun k2 ρ2 => ∃ o2, aug2 p k2 c = some o2 ∧ ρ2[i]? = some none ∧ R .nx (ρ2.set i (some o2))) : Ev (aug2S i fk1 fk2 c) ρ R := by
  obtain ⟨o, h, q⟩ := q
  unfold aug2S
  refine ev_bind.mpr (ev_pk.mpr ⟨o, h, ev_bind.mpr (q.mono fun k1 ρ1 ⟨o1, p, h1, h2, q⟩ => ?_)⟩)
  refine ev_bind.mpr (ev_mv0 h1 (ev_bind.mpr (ev_of.mpr ⟨p, h2, ev_bind.mpr (q.mono fun k2 ρ2 ⟨o2, h3, h4, q⟩ => ?_)⟩)))
  exact ev_bind.mpr (ev_of.mpr ⟨o2, h3, ev_bind.mpr (ev_bk0 h4 (ev_pure.mpr q))⟩)
end
theorem ev_whileK {fc : M Bool} {fb : M Out} {n : Nat} {ρ : Sls} {R : Out → Sls → Prop} (h : Ev (whileN fc fb n) ρ R) : Ev (whileN fc fb n) ρ R := h
end PF

set_option Elab.async false
set_option linter.all false
set_option maxRecDepth 100000
set_option maxHeartbeats 1000000
namespace PF
open PySem PySem.Spec PyProof.Rows L2
/-! ### the slots, told one by one -/
theorem ev_at1 {α : Type} {f : M α} {ρ : Sls} {R : α → Sls → Prop} {a0 : Option O} (e : ρ = [a0]) (h : Ev f [a0] R) : Ev f ρ R := by subst e; exact h
theorem ev_at2 {α : Type} {f : M α} {ρ : Sls} {R : α → Sls → Prop} {a0 a1 : Option O} (e : ρ = [a0, a1]) (h : Ev f [a0, a1] R) : Ev f ρ R := by subst e; exact h
theorem ev_at3 {α : Type} {f : M α} {ρ : Sls} {R : α → Sls → Prop} {a0 a1 a2 : Option O} (e : ρ = [a0, a1, a2]) (h : Ev f [a0, a1, a2] R) : Ev f ρ R := by subst e; exact h
theorem ev_at4 {α : Type} {f : M α} {ρ : Sls} {R : α → Sls → Prop} {a0 a1 a2 a3 : Option O} (e : ρ = [a0, a1, a2, a3]) (h : Ev f [a0, a1, a2, a3] R) : Ev f ρ R := by subst e; exact h
theorem ev_at5 {α : Type} {f : M α} {ρ : Sls} {R : α → Sls → Prop} {a0 a1 a2 a3 a4 : Option O} (e : ρ = [a0, a1, a2, a3, a4]) (h : Ev f [a0, a1, a2, a3, a4] R) : Ev f ρ R := by subst e; exact h
theorem ev_at6 {α : Type} {f : M α} {ρ : Sls} {R : α → Sls → Prop} {a0 a1 a2 a3 a4 a5 : Option O} (e : ρ = [a0, a1, a2, a3, a4, a5]) (h : Ev f [a0, a1, a2, a3, a4, a5] R) : Ev f ρ R := by subst e; exact h
theorem ev_at7 {α : Type} {f : M α} {ρ : Sls} {R : α → Sls → Prop} {a0 a1 a2 a3 a4 a5 a6 : Option O} (e : ρ = [a0, a1, a2, a3, a4, a5, a6]) (h : Ev f [a0, a1, a2, a3, a4, a5, a6] R) : Ev f ρ R := by subst e; exact h
theorem ev_at8 {α : Type} {f : M α} {ρ : Sls} {R : α → Sls → Prop} {a0 a1 a2 a3 a4 a5 a6 a7 : Option O} (e : ρ = [a0, a1, a2, a3, a4, a5, a6, a7]) (h : Ev f [a0, a1, a2, a3, a4, a5, a6, a7] R) : Ev f ρ R := by subst e; exact h
theorem ev_at9 {α : Type} {f : M α} {ρ : Sls} {R : α → Sls → Prop} {a0 a1 a2 a3 a4 a5 a6 a7 a8 : Option O} (e : ρ = [a0, a1, a2, a3, a4, a5, a6, a7, a8]) (h : Ev f [a0, a1, a2, a3, a4, a5, a6, a7, a8] R) : Ev f ρ R := by subst e; exact h
theorem ev_at10 {α : Type} {f : M α} {ρ : Sls} {R : α → Sls → Prop} {a0 a1 a2 a3 a4 a5 a6 a7 a8 a9 : Option O} (e : ρ = [a0, a1, a2, a3, a4, a5, a6, a7, a8, a9]) (h : Ev f [a0, a1, a2, a3, a4, a5, a6, a7, a8, a9] R) : Ev f ρ R := by subst e; exact h
theorem ev_at11 {α : Type} {f : M α} {ρ : Sls} {R : α → Sls → Prop} {a0 a1 a2 a3 a4 a5 a6 a7 a8 a9 a10 : Option O} (e : ρ = [a0, a1, a2, a3, a4, a5, a6, a7, a8, a9, a10]) (h : Ev f [a0, a1, a2, a3, a4, a5, a6, a7, a8, a9, a10] R) : Ev f ρ R := by subst e; exact h
theorem ev_at12 {α : Type} {f : M α} {ρ : Sls} {R : α → Sls → Prop} {a0 a1 a2 a3 a4 a5 a6 a7 a8 a9 a10 a11 : Option O} (e : ρ = [a0, a1, a2, a3, a4, a5, a6, a7, a8, a9, a10, a11]) (h : Ev f [a0, a1, a2, a3, a4, a5, a6, a7, a8, a9, a10, a11] R) : Ev f ρ R := by subst e; exact h
theorem ev_at13 {α : Type} {f : M α} {ρ : Sls} {R : α → Sls → Prop} {a0 a1 a2 a3 a4 a5 a6 a7 a8 a9 a10 a11 a12 : Option O} (e : ρ = [a0, a1, a2, a3, a4, a5, a6, a7, a8, a9, a10, a11, a12]) (h : Ev f [a0, a1, a2, a3, a4, a5, a6, a7, a8, a9, a10, a11, a12] R) : Ev f ρ R := by subst e; exact h
theorem ev_at14 {α : Type} {f : M α} {ρ : Sls} {R : α → Sls → Prop} {a0 a1 a2 a3 a4 a5 a6 a7 a8 a9 a10 a11 a12 a13 : Option O} (e : ρ = [a0, a1, a2, a3, a4, a5, a6, a7, a8, a9, a10, a11, a12, a13]) (h : Ev f [a0, a1, a2, a3, a4, a5, a6, a7, a8, a9, a10, a11, a12, a13] R) : Ev f ρ R := by subst e; exact h
theorem ev_at15 {α : Type} {f : M α} {ρ : Sls} {R : α → Sls → Prop} {a0 a1 a2 a3 a4 a5 a6 a7 a8 a9 a10 a11 a12 a13 a14 : Option O} (e : ρ = [a0, a1, a2, a3, a4, a5, a6, a7, a8, a9, a10, a11, a12, a13, a14]) (h : Ev f [a0, a1, a2, a3, a4, a5, a6, a7, a8, a9, a10, a11, a12, a13, a14] R) : Ev f ρ R := by subst e; exact h
theorem ev_at16 {α : Type} {f : M α} {ρ : Sls} {R : α → Sls → Prop} {a0 a1 a2 a3 a4 a5 a6 a7 a8 a9 a10 a11 a12 a13 a14 a15 : Option O} (e : ρ = [a0, a1, a2, a3, a4, a5, a6, a7, a8, a9, a10, a11, a12, a13, a14, a15]) (h : Ev f [a0, a1, a2, a3, a4, a5, a6, a7, a8, a9, a10, a11, a12, a13, a14, a15] R) : Ev f ρ R := by subst e; exact h
theorem ev_at17 {α : Type} {f : M α} {ρ : Sls} {R : α → Sls → Prop} {a0 a1 a2 a3 a4 a5 a6 a7 a8 a9 a10 a11 a12 a13 a14 a15 a16 : Option O} (e : ρ = [a0, a1, a2, a3, a4, a5, a6, a7, a8, a9, a10, a11, a12, a13, a14, a15, a16]) (h : Ev f [a0, a1, a2, a3, a4, a5, a6, a7, a8, a9, a10, a11, a12, a13, a14, a15, a16] R) : Ev f ρ R := by subst e; exact h
theorem ev_at18 {α : Type} {f : M α} {ρ : Sls} {R : α → Sls → Prop} {a0 a1 a2 a3 a4 a5 a6 a7 a8 a9 a10 a11 a12 a13 a14 a15 a16 a17 : Option O} (e : ρ = [a0, a1, a2, a3, a4, a5, a6, a7, a8, a9, a10, a11, a12, a13, a14, a15, a16, a17]) (h : Ev f [a0, a1, a2, a3, a4, a5, a6, a7, a8, a9, a10, a11, a12, a13, a14, a15, a16, a17] R) : Ev f ρ R := by subst e; exact h
theorem ev_at19 {α : Type} {f : M α} {ρ : Sls} {R : α → Sls → Prop} {a0 a1 a2 a3 a4 a5 a6 a7 a8 a9 a10 a11 a12 a13 a14 a15 a16 a17 a18 : Option O} (e : ρ = [a0, a1, a2, a3, a4, a5, a6, a7, a8, a9, a10, a11, a12, a13, a14, a15, a16, a17, a18]) (h : Ev f [a0, a1, a2, a3, a4, a5, a6, a7, a8, a9, a10, a11, a12, a13, a14, a15, a16, a17, a18] R) : Ev f ρ R := by subst e; exact h
theorem ev_at20 {α : Type} {f : M α} {ρ : Sls} {R : α → Sls → Prop} {a0 a1 a2 a3 a4 a5 a6 a7 a8 a9 a10 a11 a12 a13 a14 a15 a16 a17 a18 a19 : Option O} (e : ρ = [a0, a1, a2, a3, a4, a5, a6, a7, a8, a9, a10, a11, a12, a13, a14, a15, a16, a17, a18, a19]) (h : Ev f [a0, a1, a2, a3, a4, a5, a6, a7, a8, a9, a10, a11, a12, a13, a14, a15, a16, a17, a18, a19] R) : Ev f ρ R := by subst e; exact h
theorem ev_at21 {α : Type} {f : M α} {ρ : Sls} {R : α → Sls → Prop} {a0 a1 a2 a3 a4 a5 a6 a7 a8 a9 a10 a11 a12 a13 a14 a15 a16 a17 a18 a19 a20 : Option O} (e : ρ = [a0, a1, a2, a3, a4, a5, a6, a7, a8, a9, a10, a11, a12, a13, a14, a15, a16, a17, a18, a19, a20]) (h : Ev f [a0, a1, a2, a3, a4, a5, a6, a7, a8, a9, a10, a11, a12, a13, a14, a15, a16, a17, a18, a19, a20] R) : Ev f ρ R := by subst e; exact h
theorem ev_at22 {α : Type} {f : M α} {ρ : Sls} {R : α → Sls → Prop} {a0 a1 a2 a3 a4 a5 a6 a7 a8 a9 a10 a11 a12 a13 a14 a15 a16 a17 a18 a19 a20 a21 : Option O} (e : ρ = [a0, a1, a2, a3, a4, a5, a6, a7, a8, a9, a10, a11, a12, a13, a14, a15, a16, a17, a18, a19, a20, a21]) (h : Ev f [a0, a1, a2, a3, a4, a5, a6, a7, a8, a9, a10, a11, a12, a13, a14, a15, a16, a17, a18, a19, a20, a21] R) : Ev f ρ R := by subst e; exact h
theorem ev_at23 {α : Type} {f : M α} {ρ : Sls} {R : α → Sls → Prop} {a0 a1 a2 a3 a4 a5 a6 a7 a8 a9 a10 a11 a12 a13 a14 a15 a16 a17 a18 a19 a20 a21 a22 : Option O} (e : ρ = [a0, a1, a2, a3, a4, a5, a6, a7, a8, a9, a10, a11, a12, a13, a14, a15, a16, a17, a18, a19, a20, a21, a22]) (h : Ev f [a0, a1, a2, a3, a4, a5, a6, a7, a8, a9, a10, a11, a12, a13, a14, a15, a16, a17, a18, a19, a20, a21, a22] R) : Ev f ρ R := by subst e; exact h
theorem ev_at24 {α : Type} {f : M α} {ρ : Sls} {R : α → Sls → Prop} {a0 a1 a2 a3 a4 a5 a6 a7 a8 a9 a10 a11 a12 a13 a14 a15 a16 a17 a18 a19 a20 a21 a22 a23 : Option O} (e : ρ = [a0, a1, a2, a3, a4, a5, a6, a7, a8, a9, a10, a11, a12, a13, a14, a15, a16, a17, a18, a19, a20, a21, a22, a23]) (h : Ev f [a0, a1, a2, a3, a4, a5, a6, a7, a8, a9, a10, a11, a12, a13, a14, a15, a16, a17, a18, a19, a20, a21, a22, a23] R) : Ev f ρ R := by subst e; exact h
theorem ev_at25 {α : Type} {f : M α} {ρ : Sls} {R : α → Sls → Prop} {a0 a1 a2 a3 a4 a5 a6 a7 a8 a9 a10 a11 a12 a13 a14 a15 a16 a17 a18 a19 a20 a21 a22 a23 a24 : Option O} (e : ρ = [a0, a1, a2, a3, a4, a5, a6, a7, a8, a9, a10, a11, a12, a13, a14, a15, a16, a17, a18, a19, a20, a21, a22, a23, a24]) (h : Ev f [a0, a1, a2, a3, a4, a5, a6, a7, a8, a9, a10, a11, a12, a13, a14, a15, a16, a17, a18, a19, a20, a21, a22, a23, a24] R) : Ev f ρ R := by subst e; exact h
theorem ev_at26 {α : Type} {f : M α} {ρ : Sls} {R : α → Sls → Prop} {a0 a1 a2 a3 a4 a5 a6 a7 a8 a9 a10 a11 a12 a13 a14 a15 a16 a17 a18 a19 a20 a21 a22 a23 a24 a25 : Option O} (e : ρ = [a0, a1, a2, a3, a4, a5, a6, a7, a8, a9, a10, a11, a12, a13, a14, a15, a16, a17, a18, a19, a20, a21, a22, a23, a24, a25]) (h : Ev f [a0, a1, a2, a3, a4, a5, a6, a7, a8, a9, a10, a11, a12, a13, a14, a15, a16, a17, a18, a19, a20, a21, a22, a23, a24, a25] R) : Ev f ρ R := by subst e; exact h
theorem ev_at27 {α : Type} {f : M α} {ρ : Sls} {R : α → Sls → Prop} {a0 a1 a2 a3 a4 a5 a6 a7 a8 a9 a10 a11 a12 a13 a14 a15 a16 a17 a18 a19 a20 a21 a22 a23 a24 a25 a26 : Option O} (e : ρ = [a0, a1, a2, a3, a4, a5, a6, a7, a8, a9, a10, a11, a12, a13, a14, a15, a16, a17, a18, a19, a20, a21, a22, a23, a24, a25, a26]) (h : Ev f [a0, a1, a2, a3, a4, a5, a6, a7, a8, a9, a10, a11, a12, a13, a14, a15, a16, a17, a18, a19, a20, a21, a22, a23, a24, a25, a26] R) : Ev f ρ R := by subst e; exact h
theorem ev_at28 {α : Type} {f : M α} {ρ : Sls} {R : α → Sls → Prop} {a0 a1 a2 a3 a4 a5 a6 a7 a8 a9 a10 a11 a12 a13 a14 a15 a16 a17 a18 a19 a20 a21 a22 a23 a24 a25 a26 a27 : Option O} (e : ρ = [a0, a1, a2, a3, a4, a5, a6, a7, a8, a9, a10, a11, a12, a13, a14, a15, a16, a17, a18, a19, a20, a21, a22, a23, a24, a25, a26, a27]) (h : Ev f [a0, a1, a2, a3, a4, a5, a6, a7, a8, a9, a10, a11, a12, a13, a14, a15, a16, a17, a18, a19, a20, a21, a22, a23, a24, a25, a26, a27] R) : Ev f ρ R := by subst e; exact h
theorem ev_at29 {α : Type} {f : M α} {ρ : Sls} {R : α → Sls → Prop} {a0 a1 a2 a3 a4 a5 a6 a7 a8 a9 a10 a11 a12 a13 a14 a15 a16 a17 a18 a19 a20 a21 a22 a23 a24 a25 a26 a27 a28 : Option O} (e : ρ = [a0, a1, a2, a3, a4, a5, a6, a7, a8, a9, a10, a11, a12, a13, a14, a15, a16, a17, a18, a19, a20, a21, a22, a23, a24, a25, a26, a27, a28]) (h : Ev f [a0, a1, a2, a3, a4, a5, a6, a7, a8, a9, a10, a11, a12, a13, a14, a15, a16, a17, a18, a19, a20, a21, a22, a23, a24, a25, a26, a27, a28] R) : Ev f ρ R := by subst e; exact h
theorem ev_at30 {α : Type} {f : M α} {ρ : Sls} {R : α → Sls → Prop} {a0 a1 a2 a3 a4 a5 a6 a7 a8 a9 a10 a11 a12 a13 a14 a15 a16 a17 a18 a19 a20 a21 a22 a23 a24 a25 a26 a27 a28 a29 : Option O} (e : ρ = [a0, a1, a2, a3, a4, a5, a6, a7, a8, a9, a10, a11, a12, a13, a14, a15, a16, a17, a18, a19, a20, a21, a22, a23, a24, a25, a26, a27, a28, a29]) (h : Ev f [a0, a1, a2, a3, a4, a5, a6, a7, a8, a9, a10, a11, a12, a13, a14, a15, a16, a17, a18, a19, a20, a21, a22, a23, a24, a25, a26, a27, a28, a29] R) : Ev f ρ R := by subst e; exact h
end PF

set_option Elab.async false
set_option linter.all false
set_option maxRecDepth 100000
set_option maxHeartbeats 1000000
namespace PF
open PySem PySem.Spec PyProof.Rows L2
/-! ### xs.extend(ys) -/
def extO (ds : List D) : O → Option O
  | .lst os => if os.length + ds.length ≤ lim then some (.lst (os ++ ds.map .val)) else none
  | _ => none
def extF (i : Nat) (fe : M O) : M O := (pk i).bind fun b => match b with
  | .lst _ => fe.bind fun v => (M.of v.dsL).bind fun ds => (upM i (extO ds)).bind fun _ => M.pure (.val .non)
  | _ => M.stuck
theorem RepOs.apps {g : Gv} {H F : Hp} : ∀ {os ps : List O} {vs us : List V} {S T : Addr → Prop}, RepOs g H F os vs S → RepOs g H F ps us T → (∀ b, S b → T b → False) → RepOs g H F (os ++ ps) (vs ++ us) (fun b => S b ∨ T b)
  | [], ps, vs, us, S, T, r, r2, d => by
    rw [RepOs] at r; subst r
    exact RepOs.sup g (fun b hb => .inr hb) r2
  | o :: os, ps, vs, us, S, T, r, r2, d => by
    rw [RepOs] at r
    obtain ⟨v, ws, S1, S2, rfl, sp, r1, rs⟩ := r
    rw [List.cons_append, List.cons_append, RepOs]
    exact ⟨v, _, S1, fun b => S2 b ∨ T b, rfl, ⟨fun b hb => .inl (sp.l b hb), fun b hb => hb.elim (fun h => .inl (sp.r b h)) .inr, fun b h1 h2 => h2.elim (sp.d b h1) (d b (sp.l b h1))⟩, r1, RepOs.apps rs r2 fun b h1 h2 => d b (sp.r b h1) h2⟩
section
variable {W : WX} {X : Cx} {ca : Ca} {a e : Expr} {fe : M O} {apos cpos : Pos}
theorem e_extend (i : Nat) (ha : PE X a (tVar i)) (he : PE X e (T (gv X ca) W fe))
    (hbase : attributeBase a "extend" X.env (eval a X.env) = eval a X.env := by rfl)
    (hfew : ((backTo cpos (starEach [e] X.env)).all (fun x => !x.1) && (backToKw cpos (keywordEach [] X.env)).all (fun x => x.1.isSome)
      && decide (([e] : List Expr).length + ([] : List Keyword).length + (if ([] : List Keyword).isEmpty then 0 else 1) < 30)) = true := by rfl)
    (hline : (apos.endLine == cpos.line) = true := by rfl) (hs : starEach [e] X.env = (false, eval e X.env) :: starEach [] X.env := by rfl) (hplain : (backTo cpos (starEach [] X.env)).any (·.1) = false := by rfl) :
    PE X (.Call (.Attribute a "extend" apos) [e] [] cpos) (T (gv X ca) W (extF i fe)) :=
  PE.imp (pe_bm PySem.F.plainAttrs_list PySem.F.slot_list_extend PySem.F.type_list_extend mt_extend ha (pa_cons he pa_nil hs) hbase hfew hline hs hplain) fun σ H Q ⟨F, Gx, ρ, st, r⟩ => by
    obtain ⟨o0, h0, r⟩ := r.pk
    obtain ⟨x, S, hx, rx⟩ := st.peek h0
    split at r
    · rename_i os
      rw [RepO] at rx
      obtain ⟨l, vs, rfl, sa, hH, rs⟩ := rx
      refine ⟨_, hx, .inl ⟨rfl, vs, SqL.of hH⟩, F, Gx, ρ, st, r.bind.mono fun v H1 F1 ρ1 le1 r1 vv st1 => ?_⟩
      obtain ⟨ds, ed, r2⟩ := r1.bind.of
      obtain ⟨S2, rvv⟩ := Good.view (B := slL σ ρ1) st1.gd
      obtain ⟨b, us, rfl, hb, rds⟩ := dsL_ok st1.le rvv ed
      have st2 : StG (gv X ca) H1 F1 Gx σ ρ1 ([] ++ []) := st1.drop1
      obtain ⟨o1, o2, h1, h2, r3⟩ := (r2 H1 F1 (Le.refl _)).up
      unfold extO at h2
      split at h2
      · rename_i os1
        split at h2
        · rename_i hz
          cases h2
          obtain ⟨S1, SA, rr, rA, d, w⟩ := StG.wr (A := []) (L := []) st2 h1 hx
          rw [RepO] at rr
          obtain ⟨l', xs, e', sa', hH1, rs1⟩ := rr
          cases e'
          have hl1 : xs.length = os1.length := rs1.length
          have hl2 : us.length = ds.length := rds.length
          have ra := RepOs.apps (T := fun _ => False) rs1 (RepVs.os (H := H1) rds (fun _ => False)) fun b _ h => h.elim
          have st3 := w (.lst (os1 ++ ds.map .val)) (.lst (xs ++ us)) sa' (by
            rw [RepO]
            exact ⟨l, _, rfl, .inl sa', upd_same, RepOs.sup _ (fun b hb => ⟨.inl (hb.1.elim id fun h => h.elim), hb.2⟩) (RepOs.wrote (SA := fun _ => False) ra sa' fun b _ h => h)⟩)
          exact ⟨l, b, xs, us, rfl, rfl, hH1, hb, by rw [hl1, hl2]; exact lim_le hz, (r3 (upd H1 l (.lst (xs ++ us)))).pure _ F1 (Le.refl _) .non (st3.ofVal repN)⟩
        · cases h2
      · cases h2
    · obtain ⟨_, _, e⟩ := r.run; cases e
end
end PF

set_option Elab.async false
set_option linter.all false
set_option maxRecDepth 100000
set_option maxHeartbeats 1000000
namespace PF
open PySem PySem.Spec PyProof.Rows L2
/-! ### a, b = a list -/
def tupTL (n : Nat) (hs : List D → M Unit) : O → M Unit := fun o => match o.dsL with
  | some ds => if ds.length = n then hs ds else M.stuck
  | none => M.stuck
section
variable {W : WX} {pn : List Nat} {X : Cx} {ca : Ca} {es : List Expr} {hs : List D → M Unit} {pos : Pos}
theorem g_tupL {k n : Nat} (hc : X.calm = true) (hh : PGs X es (Tgs (gv X ca) W pn hs)) (hn : (assignEach es X.env).length = n := by rfl) (hst : (assignEach es X.env).findIdx? (·.1) = none := by rfl) : PG X (.Tuple es k pos) (Tg (gv X ca) W pn (tupTL n hs)) :=
  PG.imp (pg_lst hc hh hn hst) fun v σ H Q ⟨F, Gx, ρ, o, st, r⟩ => by
    obtain ⟨_, _, e⟩ := r.run
    unfold tupTL at r e
    cases q : o.dsL with
    | none => simp only [q] at e; cases e
    | some ds =>
      simp only [q] at r e
      split at r
      · rename_i hl
        obtain ⟨S, rv⟩ := Good.view (B := slL σ ρ) st.gd
        obtain ⟨a, vs, rfl, hq, rvs⟩ := dsL_ok st.le rv q
        have st1 := st.drop1
        have rvs2 : RepVs (gv X ca) F ds vs := rvs
        exact ⟨a, vs, rfl, SqL.of hq, by rw [rvs.length]; exact hl, F, Gx, ρ, ds, st1, rvs2, r⟩
      · rename_i hl
        simp only [hl, if_false] at e; cases e
end
theorem ev_tupTL {n : Nat} {hs : List D → M Unit} {o : O} {ds : List D} {ρ : Sls} {R : Unit → Sls → Prop} (h : o.dsL = some ds) (hn : ds.length = n) (q : Ev (hs ds) ρ R) : Ev (tupTL n hs o) ρ R := by
  unfold tupTL
  simp only [h]
  rw [if_pos hn]
  exact q
end PF

set_option Elab.async false
set_option linter.all false
set_option maxRecDepth 100000
set_option maxHeartbeats 1000000
namespace PF
open PySem PySem.Spec PyProof.Rows L2
/-! ### xs[j][k] += e -/
def get2i (p : List O × Nat × List O) (k : O) : Option Int := match k with
  | .val (.int m) => (ixN p.2.2.length m).bind fun q => match p.2.2[q]? with
    | some (.val (.int z)) => some z
    | _ => none
  | _ => none
def plus2 (p : List O × Nat × List O) (k : O) (z : Int) (v : O) : Option O := match k, v with
  | .val (.int m), .val (.int c) => (ixN p.2.2.length m).map fun q => .lst (p.1.set p.2.1 (.lst (p.2.2.set q (.val (.int (z + c))))))
  | _, _ => none
def aug2V (i : Nat) (fk1 fk2 fe : M O) : M Out := (pk i).bind fun _ => fk1.bind fun k1 => (mv i).bind fun o => (M.of (row2 o k1)).bind fun p => fk2.bind fun k2 => (M.of (get2i p k2)).bind fun z => fe.bind fun v => (M.of (plus2 p k2 z v)).bind fun o' => (bk i o').bind fun _ => M.pure .nx
theorem plus2_some {p : List O × Nat × List O} {m : Int} {z : Int} {v o' : O} (h : plus2 p (.val (.int m)) z v = some o') : ∃ c q, v = .val (.int c) ∧ ixN p.2.2.length m = some q ∧ o' = .lst (p.1.set p.2.1 (.lst (p.2.2.set q (.val (.int (z + c)))))) := by
  cases v with
  | val d =>
    cases d with
    | int c =>
      obtain ⟨q, hq, e⟩ := Option.map_eq_some_iff.mp (show (ixN p.2.2.length m).map (fun q => O.lst (p.1.set p.2.1 (.lst (p.2.2.set q (.val (.int (z + c))))))) = some o' from h)
      exact ⟨c, q, rfl, hq, e.symm⟩
    | _ => cases h
  | _ => cases h
theorem get2i_some {p : List O × Nat × List O} {k : O} {z : Int} (h : get2i p k = some z) : ∃ m q, k = .val (.int m) ∧ ixN p.2.2.length m = some q ∧ p.2.2[q]? = some (.val (.int z)) := by
  unfold get2i at h
  split at h
  · rename_i m
    obtain ⟨q, hq, h⟩ := Option.bind_eq_some_iff.mp h
    split at h
    · rename_i z' hz
      cases h
      exact ⟨m, q, rfl, hq, hz⟩
    · cases h
  · cases h
section
variable {W : WX} {pn : List Nat} {X : Cx} {ca : Ca} {a b1 b2 e : Expr} {fk1 fk2 fe : M O} {pos p1 tpos : Pos}
theorem s_aug2V (i : Nat) (ha : PE X a (tVar i)) (hb1 : PE X b1 (T (gv X ca) W fk1)) (hb2 : PE X b2 (T (gv X ca) W fk2)) (he : PE X e (T (gv X ca) W fe)) (hs1 : PlainIx b1 := by exact fun _ _ => rfl)
    (hass : ∀ ov iv new, augStore b2 ov iv new = (do holding [new, ov, iv] (setItem ov iv new); release [new, ov, iv] []; pure .next) := by intros; rfl) :
    PS X (.AugAssign (.Subscript (.Subscript a b1 p1) b2 tpos) .Add e pos) (Ts (gv X ca) W pn (aug2V i fk1 fk2 fe)) :=
  PS.imp (ps_augS (pe_ix ix_list ha hb1 hs1) hb2 get_list he ip_add set_list hass) fun D σ H ⟨F, Gx, ρ, st, r⟩ => by
    obtain ⟨o0, h0, r⟩ := r.pk
    obtain ⟨x, hx⟩ := st.wf i o0 h0
    refine ⟨x, hx, F, Gx, ρ, st, (r.expr (H := H)).mono fun k1 H1 F1 ρ1 le1 r1 kv st3 => ?_⟩
    obtain ⟨o1, h1, r2⟩ := Rs.mv r1
    obtain ⟨x', hx', st4⟩ := st3.take h1
    rw [hx] at hx'; cases hx'
    obtain ⟨⟨os, j, xs⟩, ej, r3⟩ := (r2.expr (H := H1)).of
    obtain ⟨n, rfl, rfl, hj, hxs⟩ := row2_some ej
    simp only at hj hxs
    have ekv : kv = .int n := by
      have z := (st4.perm (L' := [(kv, .val (.int n)), (x, .lst os)]) (.swap _ _ _)).gd.val
      rw [RepV] at z; exact z
    subst ekv
    obtain ⟨Gx2, SB, rB, hB, st5, back2⟩ := st4.asideP
    obtain ⟨S1, S2, sp, ro, _⟩ := rB
    simp only at ro
    rw [RepO] at ro
    obtain ⟨p, vs, rfl, sa, hH, rs⟩ := ro
    obtain ⟨w, T1, hw, hsub, ro3, _⟩ := RepOs.sub rs hxs
    rw [RepO] at ro3
    obtain ⟨l, ws, rfl, sl, hl, _⟩ := ro3
    have hlen : vs.length = os.length := rs.length
    refine ⟨p, vs, n, .ref l, rfl, rfl, SqL.of hH, by unfold L2.atI; rw [hlen, hj]; exact hw, F1, Gx2, ρ1.set i none, st5, (Rn.aside ((r3 H1 F1 (Le.refl _)).expr (H := H1)) fun H' F' ρ' le q => (back2 H' F' ρ' [] le q).drop1.drop1).mono fun k2 H2 F2 ρ2 le2 r4 kv2 st6 => ?_⟩
    have hHl2 : H2 l = some (.lst ws) := StG.stays hB st6 (sp.l l (hsub l sl).1) hl
    obtain ⟨z, ez, r5⟩ := (r4.expr (H := H2)).of
    obtain ⟨m, q, rfl, hq, hz⟩ := get2i_some ez
    simp only at hq hz
    · · have ekv2 : kv2 = .int m := by
          have zz := st6.gd.val (B := slL σ ρ2)
          rw [RepV] at zz; exact zz
        subst ekv2
        have st7 := back2 H2 F2 ρ2 _ le2 st6
        have hHp2 : H2 p = some (.lst vs) := StG.stays hB st6 (sp.l p sa) hH
        -- what the row holds
        obtain ⟨Sa, Sb, rP⟩ : ∃ Sa Sb : Addr → Prop, RepO (gv X ca) H2 F2 (.lst os) (.ref p) Sa ∧ Sb = Sa := by
          have := (st7.perm (L' := [(.ref p, .lst os), (.int n, .val (.int n)), (.int m, .val (.int m))]) (.refl _))
          obtain ⟨S, hS⟩ := Good.view (B := _) this.gd
          exact ⟨S, S, hS, rfl⟩
        obtain ⟨rP, _⟩ := rP
        rw [RepO] at rP
        obtain ⟨p', vs', e1, sa', hH', rs'⟩ := rP
        cases e1
        rw [hHp2] at hH'; cases hH'
        obtain ⟨w', T', hw', hsub', ro', _⟩ := RepOs.sub rs' hxs
        rw [hw] at hw'; cases hw'
        rw [RepO] at ro'
        obtain ⟨l', ws', e2, sl', hl', rws'⟩ := ro'
        cases e2
        rw [hHl2] at hl'; cases hl'
        have hwl : ws.length = xs.length := rws'.length
        obtain ⟨wz, _, hwz, _, roz, _⟩ := RepOs.sub rws' hz
        rw [RepO, RepV] at roz
        subst roz
        refine ⟨l, ws, m, .int z, rfl, rfl, SqL.of hHl2, by unfold L2.atI; rw [hwl, hq]; exact hwz, F2, Gx2, ρ2, st6.drop1, (Rn.aside ((r5 H2 F2 (Le.refl _)).expr (H := H2)) fun H' F' ρ' le q => (back2 H' F' ρ' [] (le2.trans le) q).drop1.drop1).mono fun v H3 F3 ρ3 le3 r6 y st8 => ?_⟩
        have st9 := back2 H3 F3 ρ3 _ (le2.trans le3) st8
        have hHp3 : H3 p = some (.lst vs) := StG.stays hB st8 (sp.l p sa) hH
        have hHl3 : H3 l = some (.lst ws) := StG.stays hB st8 (sp.l l (hsub l sl).1) hl
        obtain ⟨o', eo, r7⟩ := (r6.expr (H := H3)).of
        obtain ⟨c, q2, rfl, hq2, rfl⟩ := plus2_some eo
        simp only at hq2
        rw [hq] at hq2; cases hq2
        · have ey : y = .int c := by
            have zz := st8.gd.val (B := slL σ ρ3)
            rw [RepV] at zz; exact zz
          subst ey
          obtain ⟨hi, fin⟩ := Rs.bk (r7 H3 F3 (Le.refl _)).bind
          have hil : i < ρ3.length := (List.getElem?_eq_some_iff.mp hi).1
          have st10 : StG (gv X ca) H3 F3 Gx σ (ρ3.set i (some (.lst os))) [(.int n, .val (.int n)), (.int c, .val (.int c))] := st9.putback hx hi
          have st11 : StG (gv X ca) H3 F3 Gx σ (ρ3.set i (some (.lst os))) ([] ++ []) := st10.drop1.drop1
          obtain ⟨S1', SA, rr, rA, dd, wr⟩ := StG.wrN (o := .lst os) (A := []) (L := []) st11 (by simp [hil]) hx
          rw [RepO] at rr
          obtain ⟨p', vs', e1, sa', hH', rs'⟩ := rr
          cases e1
          rw [hHp3] at hH'; cases hH'
          obtain ⟨w', T', hw', hsub', ro', put⟩ := RepOs.sub rs' hxs
          rw [hw] at hw'; cases hw'
          rw [RepO] at ro'
          obtain ⟨l', ws', e2, sl', hl', rws'⟩ := ro'
          cases e2
          rw [hHl3] at hl'; cases hl'
          have hSl := hsub' l sl'
          have rset := RepOs.set (T := fun _ => False) (o := .val (.int (z + c))) (v := .int (z + c)) q rws' (by rw [RepO, RepV]) fun b _ h2 => h2.elim
          have rol : RepO (gv X ca) (upd H3 l (.lst (ws.set q (.int (z + c))))) F3 (.lst (xs.set q (.val (.int (z + c))))) (.ref l) (fun b => T' b ∨ False) := by
            rw [RepO]
            exact ⟨l, ws.set q (.int (z + c)), rfl, .inl sl', upd_same, RepOs.wrote rset sl' fun b _ h2 => h2⟩
          have ro5 := put l (.lst (ws.set q (.int (z + c)))) (.lst (xs.set q (.val (.int (z + c))))) (fun _ => False) sl' (fun b _ h2 => h2) rol
          have st12 := wr (.lst (os.set j (.lst (xs.set q (.val (.int (z + c))))))) l (.lst (ws.set q (.int (z + c)))) hSl.1 (by
            rw [RepO]
            exact ⟨p, vs, rfl, .inl sa', by rw [upd_ne (Ne.symm hSl.2)]; exact hHp3, RepOs.sup _ (fun b hb => hb.elim (fun hb => ⟨.inl hb.1, hb.2⟩) (fun hb => hb.elim)) ro5⟩)
          rw [List.set_set] at st12
          refine ⟨z, c, rfl, rfl, l, ws, m, q, rfl, rfl, hHl3, by rw [hwl]; exact hq, ?_⟩
          exact (fin H3 F3 σ (Le.refl _) (Pin.refl _)).pure _ F3 σ (Le.refl _) (Pin.refl _) st12
end
section
variable {ρ : Sls}
theorem ev_aug2V {i : Nat} {fk1 fk2 fe : M O} {R : Out → Sls → Prop} (q : ∃ o, ρ[i]? = some (some o) ∧ Ev fk1 ρ fun k1 ρ1 => ∃ o1 p, ρ1[i]? = some (some o1) ∧ row2 o1 k1 = some p ∧ Ev fk2 (ρ1.set i none) fun k2 ρ2 => ∃ z, get2i p k2 = some z ∧ Ev fe ρ2 fun v ρ3 => ∃ o2, plus2 p k2 z v = some o2 ∧ ρ3[i]? = some none ∧ R .nx (ρ3.set i (some o2))) : Ev (aug2V i fk1 fk2 fe) ρ R := by
  obtain ⟨o, h, q⟩ := q
  unfold aug2V
  refine ev_bind.mpr (ev_pk.mpr ⟨o, h, ev_bind.mpr (q.mono fun k1 ρ1 ⟨o1, p, h1, h2, q⟩ => ?_)⟩)
  refine ev_bind.mpr (ev_mv0 h1 (ev_bind.mpr (ev_of.mpr ⟨p, h2, ev_bind.mpr (q.mono fun k2 ρ2 ⟨z, h3, q⟩ => ?_)⟩)))
  refine ev_bind.mpr (ev_of.mpr ⟨z, h3, ev_bind.mpr (q.mono fun v ρ3 ⟨o2, h4, h5, q⟩ => ?_)⟩)
  exact ev_bind.mpr (ev_of.mpr ⟨o2, h4, ev_bind.mpr (ev_bk0 h5 (ev_pure.mpr q))⟩)
end
end PF

set_option Elab.async false
set_option linter.all false
set_option maxRecDepth 100000
set_option maxHeartbeats 4000000
namespace PF
open PySem PySem.Spec PyProof.Rows L2
/-! ### text * int, tuple * int -/
def repS' (x : Str) (n : Nat) : Str := ⟨(List.replicate n x.cps).foldl (· ++ ·) #[]⟩
@[irreducible] def mulH : O → O → Option O
  | .val (.str x), .val (.int k) => if 2 ≤ k ∧ k ≤ 1000 ∧ 1 ≤ x.length ∧ x.length ≤ 1000 then some (.val (.str (repS' x k.toNat))) else none
  | .val (.tup ds), .val (.int k) => if 0 ≤ k ∧ k ≤ 1000 ∧ 1 ≤ ds.length ∧ ds.length ≤ 1000 then some (.val (.tup (List.replicate k.toNat ds).flatten)) else none
  | _, _ => none
theorem foldl_apps {α : Type} (a : Array α) : ∀ (m : Nat) (acc : Array α), ((List.replicate m a).foldl (· ++ ·) acc).toList = acc.toList ++ (List.replicate m a.toList).flatten
  | 0, acc => by simp
  | m + 1, acc => by
    rw [List.replicate_succ, List.foldl_cons, foldl_apps a m, List.replicate_succ, List.flatten_cons, Array.toList_append, List.append_assoc]
theorem repS_list (x : Str) (n : Nat) : (repS' x n).cps.toList = (List.replicate n x.cps.toList).flatten := by
  unfold repS'
  rw [foldl_apps]; rfl
theorem repS_len (x : Str) (n : Nat) : (repS' x n).length = n * x.length := by
  show (repS' x n).cps.size = n * x.cps.size
  rw [← Array.length_toList, repS_list, PyProof.Rows.lm_len_rep_flat, Array.length_toList]
section
variable {prog : Program} {w : World} {A : Around} {E : Value → Shared → Prop} {s : Shared}
theorem mul_str2 {x : Str} {n : Int} {t u : Tok} {Q : Value → Shared → Prop} (h1 : 2 ≤ n) (h2 : n ≤ 1000) (h3 : 1 ≤ x.length) (h4 : x.length ≤ 1000) (h : Q (.str (repS' x n.toNat) s.toks) { s with toks := s.toks + 1 }) :
    wpAny (model prog w) A (binaryOp .Mult (.str x t) (.int n u)) Q E s := by
  have hm : x.length * n.toNat ≤ 1000 * 1000 := Nat.mul_le_mul h4 (by omega)
  refine P.mul_str (by rw [decide_eq_false (by omega), decide_eq_false (by omega)]; rfl) (fun _ _ => ?_) (fun _ _ => ?_) ?_
  · refine Int.not_lt.mpr (Int.le_ediv_of_mul_le (by omega) ?_)
    have e : (x.length : Int) * n = ((x.length * n.toNat : Nat) : Int) := by rw [Int.natCast_mul, Int.toNat_of_nonneg (by omega)]
    rw [e]
    omega
  · unfold Builtin.Str.tooLong
    rw [sizeLine_eq]
    exact decide_eq_false (by omega)
  · have e : (n == 1 || x.length == 0) = false := by
      rw [Bool.or_eq_false_iff]
      exact ⟨beq_eq_false_iff_ne.mpr (by omega), beq_eq_false_iff_ne.mpr (by omega)⟩
    rw [if_neg (by omega), if_neg (by rw [e]; simp)]
    exact ⟨by show (repS' x n.toNat).length ≤ _; rw [repS_len, sizeLine_eq]; rw [Nat.mul_comm] at hm; omega, h⟩
end
theorem tuple_mul1 (l : Addr) (items : Array Value) (n : Nat) (dd : Option Addr) (sl : Array (Option Value)) (u : Tok) :
    Meets (Builtin.«tuple.__mul__» ⟨[.ref l, .int 1 u], []⟩) (fun _ R s => s.heap.get? l = some { cls := .type "tuple", dict := dd, data := .seq items n, slots := sl } ∧ R (.ok (.ret (Value.ref l))) s) :=
  .of_wp fun prog w A R s h => by
    obtain ⟨hp, g, d, tk, os⟩ := s
    obtain ⟨hl, h⟩ := h
    have f1 := AutoSeq1.idx_int
    wp_walk using wpAny_loadPart' hl
    exact ⟨_, rfl, h⟩
theorem tuple_mul0 (l : Addr) (items : Array Value) (n : Nat) (dd : Option Addr) (sl : Array (Option Value)) (u : Tok) (hne : items.isEmpty = false) :
    Meets (Builtin.«tuple.__mul__» ⟨[.ref l, .int 0 u], []⟩) (fun _ R s => s.heap.get? l = some { cls := .type "tuple", dict := dd, data := .seq items n, slots := sl } ∧
      R (.ok (.ret (Value.ref s.heap.objs.size))) { s with heap := s.heap.push { cls := Value.type "tuple", data := Data.seq #[] }, toks := s.toks }) :=
  .of_wp fun prog w A R s h => by
    obtain ⟨hp, g, d, tk, os⟩ := s
    obtain ⟨hl, h⟩ := h
    have f1 := AutoSeq1.idx_int
    wp_walk using wpAny_loadPart' hl
    exact ⟨_, rfl, h⟩
section
variable {X : Cx} {ca : Ca}
def rRep01 (K : PySem.W.Frag) : R2 := fun x y H Q => ∃ l k xs, x = .ref l ∧ y = .int k ∧ SqT K H l xs ∧ xs ≠ [] ∧ ((k = 1 ∧ Q (.ref l) H) ∨ (k = 0 ∧ ∀ p, H p = none → Q (.ref p) (upd H p (.tup []))))
theorem op_rep01 : OpR X (binaryOp .Mult) (rRep01 X.K) := by
  intro pins s σ H x y v u Q I rx ry h
  obtain ⟨l, k, xs, rfl, rfl, hT, hne, q⟩ := h
  cases rx
  obtain ⟨t, rfl⟩ := ry
  obtain ⟨its, r, ⟨⟨cls, dd, data, sl⟩, ho, hc, n, hd⟩, hs⟩ := I.tuple hT
  simp only at hc hd
  subst hc hd
  have hle : its.length = xs.length := r.length.symm
  have hi : its.toArray.isEmpty = false := by
    cases its with
    | nil => exact absurd (List.eq_nil_of_length_eq_zero hle.symm) hne
    | cons a b => rfl
  rcases q with ⟨rfl, q⟩ | ⟨rfl, q⟩
  · exact wpAny_binaryOp_repeat_ref (T := "tuple") (U := "int") (by decide) ⟨_, ho, rfl⟩ (fun s' => typeIs_int s' 1 t) noFill_tuple_mul F.fills_int_mul F.slot_int_rmul repeat_tuple F.slot_int_index.lookup
      (call_meets F.slot_int_rmul (typeIs_int s 1 t) F.entry_int_rmul (F.args_int_rmul_2 _ _) (int_rmul_tuple 1 t l its.toArray n dd sl)
        ⟨ho, rfl, ⟨_, ho, rfl⟩, call_meets F.slot_tuple_mul ⟨_, ho, rfl⟩ F.entry_tuple_mul (F.args_tuple_mul_2 _ _) (tuple_mul1 l its.toArray n dd sl t) ⟨ho, ⟨.ref l, H, I, rfl, q⟩⟩⟩)
  · refine wpAny_binaryOp_repeat_ref (T := "tuple") (U := "int") (by decide) ⟨_, ho, rfl⟩ (fun s' => typeIs_int s' 0 t) noFill_tuple_mul F.fills_int_mul F.slot_int_rmul repeat_tuple F.slot_int_index.lookup
      (call_meets F.slot_int_rmul (typeIs_int s 0 t) F.entry_int_rmul (F.args_int_rmul_2 _ _) (int_rmul_tuple 0 t l its.toArray n dd sl)
        ⟨ho, rfl, ⟨_, ho, rfl⟩, call_meets F.slot_tuple_mul ⟨_, ho, rfl⟩ F.entry_tuple_mul (F.args_tuple_mul_2 _ _) (tuple_mul0 l its.toArray n dd sl t hi) ⟨ho, ?_⟩⟩)
    refine ⟨.ref s.heap.objs.size, _, I.laid (t' := s.toks) (o := .tup []) (fun b ob q => Heap.get?_push_of_some _ q) (Nat.le_refl _) ?_, rfl, q _ (I.hok.fresh (Nat.le_refl _))⟩
    exact ⟨by rw [sizeLine_eq]; decide, [], .nil, IsTup.new _ _⟩
theorem op_mulStr : OpR X (binaryOp .Mult) (fun x y H Q => ∃ i k, x = .str i ∧ y = .int k ∧ 2 ≤ k ∧ k ≤ 1000 ∧ 1 ≤ i.length ∧ i.length ≤ 1000 ∧ Q (.str (repS' i k.toNat)) H) := by
  intro pins s σ H x y v u Q I rx ry h
  obtain ⟨i, k, rfl, rfl, h1, h2, h3, h4, q⟩ := h
  obtain ⟨t, rfl⟩ := rx
  obtain ⟨t', rfl⟩ := ry
  exact mul_str2 h1 h2 h3 h4 ⟨.str (repS' i k.toNat), H, I.tok _, ⟨_, rfl⟩, q⟩
theorem op_mulH : OpR X (binaryOp .Mult) (rB (gv X ca) mulH) := by
  intro pins s σ H x y v u Q I rx ry ⟨F, Gx, σ', ρ, oa, ob, S1, S2, res, st, ra, rb, e, yd⟩
  unfold mulH at e
  split at e
  · split at e
    · rename_i hc
      cases e
      cases ra.strV; cases rb.intV
      exact op_mulStr pins s σ H _ _ v u Q I rx ry ⟨_, _, rfl, rfl, hc.1, hc.2.1, hc.2.2.1, hc.2.2.2, yd.val st repS⟩
    · cases e
  · split at e
    · rename_i ds k hc
      cases e
      cases rb.intV
      obtain ⟨a, vs, rfl, qa, rva⟩ := dsT_ok st.le ra (ds := ds) rfl
      have la := rva.length
      have hvs : vs ≠ [] := fun z => by rw [z] at la; simp at la; omega
      by_cases k1 : k = 1
      · subst k1
        rw [show (List.replicate (1 : Int).toNat ds).flatten = ds by simp] at yd
        rw [RepO] at ra
        exact op_rep01 pins s σ H _ _ v u Q I rx ry ⟨a, _, vs, rfl, rfl, qa, hvs, .inl ⟨rfl, yd.val st ra⟩⟩
      · by_cases k0 : k = 0
        · subst k0
          exact op_rep01 pins s σ H _ _ v u Q I rx ry ⟨a, _, vs, rfl, rfl, qa, hvs, .inr ⟨rfl, yd.tup st (rva.rep 0)⟩⟩
        · exact op_repT pins s σ H _ _ v u Q I rx ry ⟨a, _, vs, rfl, rfl, qa, hvs, by omega, hc.2.1, by omega, yd.tup st (rva.rep _)⟩
    · cases e
  · cases e
end
end PF

set_option Elab.async false
set_option linter.all false
set_option maxRecDepth 100000
set_option maxHeartbeats 1000000
namespace PF
open PySem PySem.Spec PyProof.Rows L2
/-! ### -n, and > of tuples -/
section
variable {X : Cx} {ca : Ca} {W : WX} {pos p1 : Pos} {k : Nat}
theorem e_negc {n : Int} : PE X (.UnaryOp .USub (.Constant (.int n) k p1) pos) (T (gv X ca) W (M.pure (.val (.int (-n))))) :=
  PE.imp (pe_un un_neg pe_int) fun σ H Q ⟨F, Gx, ρ, st, q⟩ => ⟨n, rfl, q.pure H F (Le.refl F) _ (st.ofVal repI)⟩
def tupK : D → Bool
  | .tup _ => true
  | _ => false
def gtD : O → O → Option Bool
  | .val (.tup xs), .val (.tup ys) => if okD 16 (.tup xs) && okD 16 (.tup ys) && PySem.W.alike (toPy (.tup xs)) (toPy (.tup ys)) then some (PySem.W.dataLt (toPy (.tup ys)) (toPy (.tup xs))) else none
  | _, _ => none
theorem op_gtD (hu : X.A.units + 64 < cLine) : OpR X (compareOp .Gt) (rC (gv X ca) gtD) := by
  intro pins s σ H x y v u Q I rx ry ⟨F, oa, ob, S1, S2, b, le, ra, rb, e, q⟩
  unfold gtD at e
  split at e
  · rename_i xs ys
    split at e
    · rename_i hk
      cases e
      rw [Bool.and_eq_true, Bool.and_eq_true] at hk
      obtain ⟨⟨hx, hy⟩, ha⟩ := hk
      obtain ⟨as, r1⟩ := Dp.reads I _ x v (dpO_of 16 (.val (.tup xs)) x S1 le hx ra) rx
      obtain ⟨bs, r2⟩ := Dp.reads I _ y u (dpO_of 16 (.val (.tup ys)) y S2 le hy rb) ry
      exact PySem.W.gt_data r1 r2 ha (by intro z; cases z) (by
        have := (okD_lay 16 _ hx).2
        have h2 : min (toPy (.tup xs)).depth (toPy (.tup ys)).depth ≤ (toPy (.tup xs)).depth := Nat.min_le_left _ _
        show X.A.units + min (toPy (.tup xs)).depth (toPy (.tup ys)).depth < cLine
        omega) ⟨.bl _, H, I, rfl, q⟩
    · cases e
  · cases e
end
end PF

set_option Elab.async false
set_option linter.all false
set_option maxRecDepth 100000
set_option maxHeartbeats 2000000
namespace PF
open PySem PySem.Spec PyProof.Rows L2
/-! ### raise -/
/-- Base.__init__(self, ..), Base an own class over ValueError without an __init__ -/
structure SupI (K : PySem.W.Frag) (B : Addr) : Prop where
  rd : PySem.W.readsIn K B (.type "type") = true
  ga : PySem.W.specialIn K (.ref B) "__getattribute__" = some (some (.builtin "type.__getattribute__"))
  at_ : PySem.W.findCls K (.ref B) (.type "type") "__init__" = some (.val (.builtin "ValueError.__init__"))
def supB (K : PySem.W.Frag) (B : Addr) : Bool := PySem.W.readsIn K B (.type "type") && (decide (PySem.W.specialIn K (.ref B) "__getattribute__" = some (some (.builtin "type.__getattribute__"))) && (match PySem.W.findCls K (.ref B) (.type "type") "__init__" with | some (.val (.builtin n)) => n == "ValueError.__init__" | _ => false))
theorem supB_ok {K : PySem.W.Frag} {B : Addr} (h : supB K B = true) : SupI K B := by
  unfold supB at h
  rw [Bool.and_eq_true, Bool.and_eq_true, decide_eq_true_eq] at h
  obtain ⟨h1, h2, h3⟩ := h
  refine ⟨h1, h2, ?_⟩
  split at h3
  · rename_i n q
    rw [q, show n = "ValueError.__init__" from by simpa using h3]
  · cases h3
section
variable {X : Cx} {B : Addr} {x : Str} {e : Expr} {es : List Expr} {ta : TA} {p1 p2 pos : Pos}
theorem pe_sup {pl : Sem Bool} (S : SupI X.K B) (hm : X.mg x = some (.ref B)) (ha : PA X (e :: es) ta) (hg : Gl X x := by rfl) (hdb : (x == ("__debug__" : Str)) = false := by decide)
    (hst : starEach (e :: es) X.env = (false, eval e X.env) :: starEach es X.env := by rfl) (hno : (backTo pos (starEach es X.env)).any (·.1) = false := by rfl)
    (hev : eval (.Call (.Attribute (.Name x p1) "__init__" p2) (e :: es) [] pos) X.env = (do
      let ov ← eval (.Name x p1) X.env
      standAt p2.atName
      let (f, first) ← holding [ov] (getMethod ov "__init__" pl)
      callWith pos f first (backTo pos (starEach (e :: es) X.env)) (backToKw pos (keywordEach [] X.env))) := by rfl) :
    PE X (.Call (.Attribute (.Name x p1) "__init__" p2) (e :: es) [] pos) (tVeI X.K ta) := by
  refine ⟨fun pins s σ H Q I hq => ?_⟩
  refine PySem.W.methodCall_KW (ld_glob I hg hm ?_ hdb) hev
  refine PySem.W.method_cls I.kIn S.ga (PySem.W.cls_value I.kIn S.rd S.at_ rfl ?_)
  show wpAny _ _ (callWith pos (Value.builtin "ValueError.__init__") [] (backTo pos (starEach (e :: es) X.env)) []) _ _ _
  refine callWith_method1 (thn (ha.run pos pins _ σ H _ (I.tok _) hq) fun us s1 hh => ?_) hst hno
  obtain ⟨vs, H1, I1, rv, a, C, ws, rfl, hl, T, ea, q⟩ := hh
  cases rv with
  | @cons _ u0 _ ur ra rw' =>
    have e0 : u0 = Value.ref a := ra
    subst e0
    refine oinit_ok T I1 ea ?_ fun s' J => ⟨.non, H1, J, rfl, q⟩
    have := Paired.length rw'
    rw [sizeLine_eq]
    omega
end
/-- what the __init__ of an own exception promises: the fields, the last one first -/
def spX (K : PySem.W.Frag) (ns : List Str) : Sp := fun vs H Q E => ∃ (a C : Addr) (ws : List V), vs = .ref a :: ws ∧ ws.length = ns.length ∧ OexC K C ∧ (∀ f ∈ ns, PySem.W.findIn K (.ref C) f = some none) ∧ H a = some (exo a C none) ∧
  ∀ dx, H dx = none → dx ≠ a → Q .non (upd (upd H dx (exd dx (ns.zip ws).reverse)) a (exo a C (some dx)))
/-- an own exception with an __init__ -/
structure OwnX (P : Program) (w : World) (K : PySem.W.Frag) (mg : Str → Option Value) (base : Heap) (ca : Ca) (C : Nat) (x : Str) (ns : List Str) : Prop where
  ex : ∃ fI fd ps, mg x = some (.ref (ca C)) ∧ OexC K (ca C) ∧ PySem.W.findIn K (.ref (ca C)) "__init__" = some (some (.ref fI)) ∧ PySem.W.typeIn K (.ref fI) = some (.type "function") ∧ Binds K fd ps [] ∧ FnOk P w K mg base (L2.CX P w) 1 fI fd ps (spX K ns) ∧ (∀ f ∈ ns, PySem.W.findIn K (.ref (ca C)) f = some none) ∧ 0 < ns.length
/-- .. without one -/
structure OwnX0 (K : PySem.W.Frag) (mg : Str → Option Value) (ca : Ca) (C : Nat) (x : Str) : Prop where
  at_ : mg x = some (.ref (ca C))
  ex : PySem.W.excIn K (ca C) [.type "ValueError", .type "Exception", .type "BaseException", .type "object"] "ValueError.__new__" = true
  kp : PySem.W.keepIn K (.ref (ca C)) = true
  sb : PySem.W.subIn K (.ref (ca C)) (.type "BaseException") = some true
  ty : PySem.W.typeIn K (.ref (ca C)) = some (.type "type")
def raiseF (C : Nat) (ns : List Str) (fs : M (List O)) : M Out := fs.bind fun os => if os.length = ns.length ∧ ns.length ≤ 900 then M.raise ⟨C, ns.reverse, (fzs os).reverse⟩ else M.stuck
theorem upd_end {H : Hp} {a dx : Addr} {u1 u2 u3 u4 : HO} (ha : H a = none) (hne : dx ≠ a) : upd (L2.del (upd (upd (upd H a u1) dx u2) a u3) a) dx u4 = upd H dx u4 := by
  funext b
  by_cases h1 : b = dx
  · subst h1; rw [upd_same, upd_same]
  · rw [upd_ne h1, upd_ne h1]
    by_cases h2 : b = a
    · subst h2; rw [del_same, ha]
    · rw [del_ne h2, upd_ne h2, upd_ne h1, upd_ne h2]
theorem zip_rev {α β : Type} : ∀ {as : List α} {bs : List β}, as.length = bs.length → as.reverse.zip bs.reverse = (as.zip bs).reverse
  | [], [], _ => rfl
  | a :: as, b :: bs, h => by
    have h : as.length = bs.length := by simpa using h
    rw [List.reverse_cons, List.reverse_cons, List.zip_append (by simpa using h), zip_rev h, List.zip_cons_cons, show (a :: as).zip (b :: bs) = (a, b) :: as.zip bs from rfl, List.reverse_cons]
    rfl
  | [], _ :: _, h => by cases h
  | _ :: _, [], h => by cases h
theorem fzs_len : ∀ os : List O, (fzs os).length = os.length
  | [] => by rw [fzs]; rfl
  | o :: os => by rw [fzs, List.length_cons, List.length_cons, fzs_len os]
theorem RepVs.rev {g : Gv} {F : Hp} : ∀ {ds : List D} {vs : List V}, RepVs g F ds vs → RepVs g F ds.reverse vs.reverse := by
  have app : ∀ {ds ds' : List D} {vs vs' : List V}, RepVs g F ds vs → RepVs g F ds' vs' → RepVs g F (ds ++ ds') (vs ++ vs') := by
    intro ds
    induction ds with
    | nil => intro ds' vs vs' h h'; rw [RepVs] at h; subst h; exact h'
    | cons d ds ih =>
      intro ds' vs vs' h h'
      rw [RepVs] at h
      obtain ⟨v, r, rfl, h1, h2⟩ := h
      rw [List.cons_append, List.cons_append, RepVs]
      exact ⟨v, _, rfl, h1, ih h2 h'⟩
  intro ds
  induction ds with
  | nil => intro vs h; rw [RepVs] at h; subst h; rw [List.reverse_nil, RepVs]; rfl
  | cons d ds ih =>
    intro vs h
    rw [RepVs] at h
    obtain ⟨v, r, rfl, h1, h2⟩ := h
    rw [List.reverse_cons, List.reverse_cons]
    exact app (ih h2) (by rw [RepVs]; exact ⟨v, [], rfl, h1, by rw [RepVs]⟩)
section
variable {W : WX} {X : Cx} {ca : Ca} {pn : List Nat} {C j : Nat} {x m : Str} {ns : List Str} {p p2 pos rpos : Pos} {e : Expr} {es : List Expr} {fs : M (List O)} {n : Nat}
theorem passF {CX : CXT} (P : Program) (w : World) : Passes (L2.CX X.prog X.w) X (fun _ _ _ => False) := by
  intro pins s σ H e s' I h
  obtain ⟨_, _, _, _, _, _, _, _, _, _, _, _, z⟩ := h
  exact z.elim
theorem s_raise0 (Ow : OwnX0 X.K X.mg ca C x) (hc : X.calm = true) (tk : Takes X W) (hg : Gl X x := by rfl) (hdb : (x == ("__debug__" : Str)) = false := by decide) :
    PS X (.Raise (some (.Call (.Name x p) [.Constant (.str m) n p2] [] pos)) none rpos) (Ts (gv X ca) W pn (raiseF C [] nilA)) :=
  PS.imp (ps_raise hc tk (pmk_own PySem.F.excBase_ValueError Ow.ex Ow.at_ Ow.kp (raises_own Ow.sb Ow.ty) hg hdb)) fun D σ H ⟨F, Gx, ρ, st, r⟩ => by
    have r2 : Rs (gv X ca) W pn (M.raise ⟨C, [], []⟩ : M Out) σ F Gx ρ _ := r
    exact r2 H F σ none (Le.refl F) (Pin.refl σ) st (.inl ⟨rfl, rfl⟩)
theorem s_raiseX (Ow : OwnX X.prog X.w X.K X.mg X.base ca C x ns) (hc : X.calm = true) (hr : Room j X.A) (hj : 2 ≤ j) (tk : Takes X W) (ha : PA X (e :: es) (TL (gv X ca) W fs)) (hg : Gl X x := by rfl) (hdb : (x == ("__debug__" : Str)) = false := by decide)
    (he : starEach (e :: es) X.env = (false, eval e X.env) :: starEach es X.env := by rfl) (hpl : (backTo pos (starEach es X.env)).any (·.1) = false := by rfl) :
    PS X (.Raise (some (.Call (.Name x p) (e :: es) [] pos)) none rpos) (Ts (gv X ca) W pn (raiseF C ns fs)) := by
  obtain ⟨fI, fd, ps, hm, T, iC, tI, hb, Fo, hno, h0⟩ := Ow.ex
  refine PS.imp (ps_raise hc tk (pmk_oex T iC tI Fo (hr.mono hj) hb .nil (passF (CX := L2.CX X.prog X.w) X.prog X.w) hg hm ha hdb he hpl)) fun D σ H ⟨F, Gx, ρ, st, r⟩ => ?_
  refine ⟨F, Gx, ρ, st, r.expr.mono fun os H1 F1 ρ1 le r2 vs hl st1 => ?_⟩
  split at r2
  · rename_i hk
    obtain ⟨F2, le2, g2, rv⟩ := Good.freezeL (B := slL σ ρ1) hl st1.gd
    have st2 : StG (gv X ca) H1 F2 Gx σ ρ1 [] := ⟨st1.wf, st1.len, g2⟩
    have r3 : Rs (gv X ca) W pn (M.raise ⟨C, ns.reverse, (fzs os).reverse⟩ : M Out) σ F1 Gx ρ1 _ := r2
    refine ⟨by omega, fun a hna => ⟨a, ca C, vs, by rw [List.append_nil], by omega, T, hno, upd_same, fun dx hdx hne => ⟨rfl, dx, (ns.zip vs).reverse, upd_same, ?_, ?_, ?_⟩⟩⟩
    · rw [upd_ne hne, upd_same]
    · rw [upd_ne hne] at hdx; exact hdx
    · rw [upd_ne hne] at hdx
      rw [upd_end hna hne]
      obtain ⟨le3, st3⟩ := st2.newF (u := .xd (ns.zip vs).reverse) hdx
      refine r3 _ _ σ (some dx) (le2.trans le3) (Pin.refl σ) st3 (.inr ⟨dx, vs.reverse, rfl, ?_, ?_, RepVs.mono _ le3 _ _ rv.rev⟩)
      · rw [upd_same]
        congr 2
        exact (zip_rev (by omega)).symm
      · rw [List.length_reverse, List.length_reverse]; omega
  · obtain ⟨_, _, e⟩ := r2.run; cases e
end
end PF

set_option Elab.async false
set_option linter.all false
set_option maxRecDepth 100000
set_option maxHeartbeats 2000000
namespace PF
open PySem PySem.Spec PyProof.Rows L2
/-! ### the __init__ of an own exception -/
/-- Base.__init__(self, ".."); self.f = f -/
def tX1 (K : PySem.W.Frag) (m f : Str) : L2.TS := tSeq (tDrop (tVeI K (tCons (tVar 0) (tCons (tC (.str m)) tNil)))) (tOst K f (tVar 0) (tVar 1))
def tX2 (K : PySem.W.Frag) (m f g : Str) : L2.TS := tSeq (tDrop (tVeI K (tCons (tVar 0) (tCons (tC (.str m)) tNil)))) (tSeq (tOst K f (tVar 0) (tVar 1)) (tOst K g (tVar 0) (tVar 2)))
theorem upd_swap {H : Hp} {a dx : Addr} {u1 u2 u3 : HO} (hne : dx ≠ a) : upd (upd (upd H dx u1) a u2) dx u3 = upd (upd H dx u3) a u2 := by
  funext b
  by_cases h1 : b = dx
  · subst h1; rw [upd_same, upd_ne hne, upd_same]
  · rw [upd_ne h1]
    by_cases h2 : b = a
    · subst h2; rw [upd_same, upd_same]
    · rw [upd_ne h2, upd_ne h2, upd_ne h1, upd_ne h1]
theorem x1_ok {K : PySem.W.Frag} {m f : Str} {N : List Str} {vs : List V} {H : Hp} {Q : VK} {E : XK} (h : spX K [f] vs H Q E) : tX1 K m f { nx := fun _ H' => Q .non H', rt := Q } (L2.start N vs) H := by
  obtain ⟨a, C, ws, rfl, hl, T, hno, ha, q⟩ := h
  match ws, hl with
  | [v], _ => exact ⟨.ref a, rfl, a, C, [.str m], rfl, by simp, T, ha, v, rfl, .ref a, rfl, a, C, rfl, T, hno f (by simp), .inl ⟨ha, fun dx h1 h2 => q dx h1 h2⟩⟩
theorem x2_ok {K : PySem.W.Frag} {m f g : Str} {N : List Str} {vs : List V} {H : Hp} {Q : VK} {E : XK} (h : spX K [f, g] vs H Q E) : tX2 K m f g { nx := fun _ H' => Q .non H', rt := Q } (L2.start N vs) H := by
  obtain ⟨a, C, ws, rfl, hl, T, hno, ha, q⟩ := h
  match ws, hl with
  | [v, w], _ =>
    refine ⟨.ref a, rfl, a, C, [.str m], rfl, by simp, T, ha, v, rfl, .ref a, rfl, a, C, rfl, T, hno f (by simp), .inl ⟨ha, fun dx h1 h2 => ?_⟩⟩
    refine ⟨w, rfl, .ref a, rfl, a, C, rfl, T, hno g (by simp), .inr ⟨dx, [(f, v)], upd_same, by rw [upd_ne h2, upd_same], by simp, ?_⟩⟩
    show Q .non _
    rw [upd_swap h2]
    exact q dx h1 h2
section
variable {P : Program} {w : World} {K : PySem.W.Frag} {mg : Str → Option Value} {base : Heap} {x qual : Str} {params : Arguments} {body : List Stmt} {scope : Scope} {f : Addr} {fd : FuncData} {N ps : List Str} {m f1 f2 : Str}
theorem d_okX1 (Fu : FunD K x qual params body scope [] [] f fd) (S : FnScope N ps scope) (hl : ps.length = 2)
    (hbody : ∀ (cdv : Value) (A : Around) (outer : List Env) (s : Shared) (H : Hp) (E : XK), PSs (cxOf (L2.CX P w) P w K mg base N qual scope f cdv A outer s H E) body (tX1 K m f1)) : FnOk P w K mg base (L2.CX P w) 1 f fd ps (spX K [f1]) :=
  Fu.ok S (fun vs H Q E ⟨a, C, ws, e, h, _⟩ => by rw [e, List.length_cons, h, hl]; rfl) fun cdv A outer s H vs Q E _ h => ⟨_, hbody cdv A outer s H E, x1_ok h⟩
theorem d_okX2 (Fu : FunD K x qual params body scope [] [] f fd) (S : FnScope N ps scope) (hl : ps.length = 3)
    (hbody : ∀ (cdv : Value) (A : Around) (outer : List Env) (s : Shared) (H : Hp) (E : XK), PSs (cxOf (L2.CX P w) P w K mg base N qual scope f cdv A outer s H E) body (tX2 K m f1 f2)) : FnOk P w K mg base (L2.CX P w) 1 f fd ps (spX K [f1, f2]) :=
  Fu.ok S (fun vs H Q E ⟨a, C, ws, e, h, _⟩ => by rw [e, List.length_cons, h, hl]; rfl) fun cdv A outer s H vs Q E _ h => ⟨_, hbody cdv A outer s H E, x2_ok h⟩
end
section
variable {X : Cx} {B : Addr} {x : Str} {m f1 f2 n0 n1 n2 : Str} {j : Nat} {p1 p2 p3 p4 p5 p6 p7 p8 p9 p10 p11 p12 p13 : Pos}
theorem b_x1 (S : SupI X.K B) (hm : X.mg x = some (.ref B)) (h0 : PE X (.Name n0 p3) (tVar 0)) (h0' : PE X (.Name n0 p8) (tVar 0)) (h1 : PE X (.Name n1 p7) (tVar 1)) {b : Stmt} (he : PS X b (tDrop (tVeI X.K (tCons (tVar 0) (tCons (tC (.str m)) tNil)))))
    (hs : swapsWith (.Name n1 p7) (some (.Attribute (.Name n0 p8) f1 p9)) p10.line X.env = pure false := by rfl) : PSs X [b, .Assign [.Attribute (.Name n0 p8) f1 p9] (.Name n1 p7) p10] (tX1 X.K m f1) :=
  pss_cons he (pss_one (ps_ost h0' h1 hs))
end
end PF

set_option Elab.async false
set_option linter.all false
set_option maxRecDepth 100000
set_option maxHeartbeats 2000000
namespace PF
open PySem PySem.Spec PyProof.Rows L2
/-! ### try .. except -/
mutual
/-- no exception in it -/
def xf : D → Bool
  | .exn _ _ _ => false
  | .tup ds => xfs ds
  | .lst ds => xfs ds
  | .dct _ ks ds => xfs ks && xfs ds
  | .ins _ _ ds => xfs ds
  | _ => true
def xfs : List D → Bool
  | [] => true
  | d :: ds => xf d && xfs ds
end
mutual
def xfO : O → Bool
  | .val d => xf d
  | .lst os => xfOs os
  | .dct _ ks os => xfs ks && xfOs os
  | .ins _ _ os => xfOs os
def xfOs : List O → Bool
  | [] => true
  | o :: os => xfO o && xfOs os
end
section
variable {P : Program} {w : World} {K : PySem.W.Frag} {at_ : Nat → Addr} {tb : List (Addr × Str)} {x y : Option (Addr × Option Addr × Nat)}
mutual
theorem conv_V {F : Hp} : ∀ (d : D) (v : V), xf d = true → RepV ⟨P, w, K, ⟨at_, tb, x⟩⟩ F d v → RepV ⟨P, w, K, ⟨at_, tb, y⟩⟩ F d v
  | .non, v, _, r => by rw [RepV] at r ⊢; exact r
  | .bl _, v, _, r => by rw [RepV] at r ⊢; exact r
  | .int _, v, _, r => by rw [RepV] at r ⊢; exact r
  | .str _, v, _, r => by rw [RepV] at r ⊢; exact r
  | .scr _, v, _, r => by rw [RepV] at r ⊢; exact r
  | .ty _, v, _, r => by rw [RepV] at r ⊢; exact r
  | .exn _ _ _, v, h, r => by rw [xf] at h; cases h
  | .tup ds, v, h, r => by
    rw [xf] at h
    rw [RepV] at r ⊢
    obtain ⟨a, vs, e, q, rs⟩ := r
    exact ⟨a, vs, e, q, conv_Vs ds vs h rs⟩
  | .lst ds, v, h, r => by
    rw [xf] at h
    rw [RepV] at r ⊢
    obtain ⟨a, vs, e, q, rs⟩ := r
    exact ⟨a, vs, e, q, conv_Vs ds vs h rs⟩
  | .dct false ks ds, v, h, r => by
    rw [xf, Bool.and_eq_true] at h
    rw [RepV] at r ⊢
    obtain ⟨a, us, e, q, rs⟩ := r
    exact ⟨a, us, e, q, conv_Vs ds us h.2 rs⟩
  | .dct true ks ds, v, h, r => by
    rw [xf, Bool.and_eq_true] at h
    rw [RepV] at r ⊢
    obtain ⟨a, xs, e, e2, e3, e4, e5, rs⟩ := r
    exact ⟨a, xs, e, conv_Vs ks _ h.1 e2, e3, e4, e5, conv_Vs ds _ h.2 rs⟩
  | .ins c ns ds, v, h, r => by
    rw [xf] at h
    rw [RepV] at r ⊢
    obtain ⟨a, dx, vs, e, l, q, rs⟩ := r
    exact ⟨a, dx, vs, e, l, q, conv_Vs ds vs h rs⟩
theorem conv_Vs {F : Hp} : ∀ (ds : List D) (vs : List V), xfs ds = true → RepVs ⟨P, w, K, ⟨at_, tb, x⟩⟩ F ds vs → RepVs ⟨P, w, K, ⟨at_, tb, y⟩⟩ F ds vs
  | [], vs, _, r => by rw [RepVs] at r ⊢; exact r
  | d :: ds, vs, h, r => by
    rw [xfs, Bool.and_eq_true] at h
    rw [RepVs] at r ⊢
    obtain ⟨v, u, e, r1, r2⟩ := r
    exact ⟨v, u, e, conv_V d v h.1 r1, conv_Vs ds u h.2 r2⟩
end
mutual
theorem free_V {F : Hp} : ∀ (d : D) (v : V), RepV ⟨P, w, K, ⟨at_, tb, none⟩⟩ F d v → xf d = true
  | .non, v, r => by simp [xf]
  | .bl _, v, r => by simp [xf]
  | .int _, v, r => by simp [xf]
  | .str _, v, r => by simp [xf]
  | .scr _, v, r => by simp [xf]
  | .ty _, v, r => by simp [xf]
  | .exn _ _ _, v, r => by rw [RepV] at r; obtain ⟨_, e, _⟩ := r; cases e
  | .tup ds, v, r => by
    rw [RepV] at r
    obtain ⟨a, vs, e, q, rs⟩ := r
    rw [xf]; exact free_Vs ds vs rs
  | .lst ds, v, r => by
    rw [RepV] at r
    obtain ⟨a, vs, e, q, rs⟩ := r
    rw [xf]; exact free_Vs ds vs rs
  | .dct false ks ds, v, r => by
    rw [RepV] at r
    obtain ⟨a, us, e, q, rs⟩ := r
    rw [xf, Bool.and_eq_true]
    refine ⟨?_, free_Vs ds us rs⟩
    have key : ∀ kk : List Key, xfs (kk.map keyD) = true := fun kk => by
      induction kk with
      | nil => rw [List.map_nil, xfs]
      | cons k kk ih => rw [List.map_cons, xfs, ih]; cases k <;> simp [keyD, xf]
    have key2 : ∀ zs : List (Str × V), xfs (zs.map fun z => D.str z.1) = true := fun zs => by
      induction zs with
      | nil => rw [List.map_nil, xfs]
      | cons k kk ih => rw [List.map_cons, xfs, ih]; simp [xf]
    rcases q with ⟨kk, rfl, _⟩ | ⟨_, _, zs, _, rfl, _⟩
    · exact key kk
    · exact key2 zs
  | .dct true ks ds, v, r => by
    rw [RepV] at r
    obtain ⟨a, xs, e, e2, e3, e4, e5, rs⟩ := r
    rw [xf, Bool.and_eq_true]; exact ⟨free_Vs ks _ e2, free_Vs ds _ rs⟩
  | .ins c ns ds, v, r => by
    rw [RepV] at r
    obtain ⟨a, dx, vs, e, l, q, rs⟩ := r
    rw [xf]; exact free_Vs ds vs rs
theorem free_Vs {F : Hp} : ∀ (ds : List D) (vs : List V), RepVs ⟨P, w, K, ⟨at_, tb, none⟩⟩ F ds vs → xfs ds = true
  | [], vs, r => by rw [xfs]
  | d :: ds, vs, r => by
    rw [RepVs] at r
    obtain ⟨v, u, e, r1, r2⟩ := r
    rw [xfs, free_V d v r1, free_Vs ds u r2]; rfl
end
mutual
theorem conv_O {H F : Hp} : ∀ (o : O) (v : V) (S : Addr → Prop), xfO o = true → RepO ⟨P, w, K, ⟨at_, tb, x⟩⟩ H F o v S → RepO ⟨P, w, K, ⟨at_, tb, y⟩⟩ H F o v S
  | .val d, v, S, h, r => by
    rw [xfO] at h
    rw [RepO] at r ⊢
    exact conv_V d v h r
  | .lst os, v, S, h, r => by
    rw [xfO] at h
    rw [RepO] at r ⊢
    obtain ⟨a, vs, e, sa, q, rs⟩ := r
    exact ⟨a, vs, e, sa, q, conv_Os os vs _ h rs⟩
  | .dct false ks os, v, S, h, r => by
    rw [xfO, Bool.and_eq_true] at h
    rw [RepO] at r ⊢
    obtain ⟨a, us, e, sa, q, rs⟩ := r
    exact ⟨a, us, e, sa, q, conv_Os os us _ h.2 rs⟩
  | .dct true ks os, v, S, h, r => by
    rw [xfO, Bool.and_eq_true] at h
    rw [RepO] at r ⊢
    obtain ⟨a, xs, e, sa, e2, e3, e4, e5, rs⟩ := r
    exact ⟨a, xs, e, sa, conv_Vs ks _ h.1 e2, e3, e4, e5, conv_Os os _ _ h.2 rs⟩
  | .ins c ns os, v, S, h, r => by
    rw [xfO] at h
    rw [RepO] at r ⊢
    obtain ⟨a, dx, vs, e, sa, l, q, rs⟩ := r
    exact ⟨a, dx, vs, e, sa, l, q, conv_Os os vs _ h rs⟩
theorem conv_Os {H F : Hp} : ∀ (os : List O) (vs : List V) (S : Addr → Prop), xfOs os = true → RepOs ⟨P, w, K, ⟨at_, tb, x⟩⟩ H F os vs S → RepOs ⟨P, w, K, ⟨at_, tb, y⟩⟩ H F os vs S
  | [], vs, S, _, r => by rw [RepOs] at r ⊢; exact r
  | o :: os, vs, S, h, r => by
    rw [xfOs, Bool.and_eq_true] at h
    rw [RepOs] at r ⊢
    obtain ⟨v, u, S1, S2, e, sp, r1, r2⟩ := r
    exact ⟨v, u, S1, S2, e, sp, conv_O o v S1 h.1 r1, conv_Os os u S2 h.2 r2⟩
end
mutual
theorem free_O {H F : Hp} : ∀ (o : O) (v : V) (S : Addr → Prop), RepO ⟨P, w, K, ⟨at_, tb, none⟩⟩ H F o v S → xfO o = true
  | .val d, v, S, r => by
    rw [RepO] at r
    rw [xfO]; exact free_V d v r
  | .lst os, v, S, r => by
    rw [RepO] at r
    obtain ⟨a, vs, e, sa, q, rs⟩ := r
    rw [xfO]; exact free_Os os vs _ rs
  | .dct false ks os, v, S, r => by
    rw [RepO] at r
    obtain ⟨a, us, e, sa, ⟨kk, rfl, _⟩, rs⟩ := r
    have key : ∀ kk : List Key, xfs (kk.map keyD) = true := fun kk => by
      induction kk with
      | nil => rw [List.map_nil, xfs]
      | cons k kk ih => rw [List.map_cons, xfs, ih]; cases k <;> simp [keyD, xf]
    rw [xfO, key kk, free_Os os us _ rs]; rfl
  | .dct true ks os, v, S, r => by
    rw [RepO] at r
    obtain ⟨a, xs, e, sa, e2, e3, e4, e5, rs⟩ := r
    rw [xfO, free_Vs ks _ e2, free_Os os _ _ rs]; rfl
  | .ins c ns os, v, S, r => by
    rw [RepO] at r
    obtain ⟨a, dx, vs, e, sa, l, q, rs⟩ := r
    rw [xfO]; exact free_Os os vs _ rs
theorem free_Os {H F : Hp} : ∀ (os : List O) (vs : List V) (S : Addr → Prop), RepOs ⟨P, w, K, ⟨at_, tb, none⟩⟩ H F os vs S → xfOs os = true
  | [], vs, S, r => by rw [xfOs]
  | o :: os, vs, S, r => by
    rw [RepOs] at r
    obtain ⟨v, u, S1, S2, e, sp, r1, r2⟩ := r
    rw [xfOs, free_O o v S1 r1, free_Os os u S2 r2]; rfl
end
theorem conv_L {H F : Hp} : ∀ (L : List (V × O)) (S : Addr → Prop), (∀ p ∈ L, xfO p.2 = true) → RepL ⟨P, w, K, ⟨at_, tb, x⟩⟩ H F L S → RepL ⟨P, w, K, ⟨at_, tb, y⟩⟩ H F L S
  | [], _, _, _ => trivial
  | p :: L, S, h, ⟨S1, S2, sp, r1, r2⟩ => ⟨S1, S2, sp, conv_O p.2 p.1 S1 (h p (by simp)) r1, conv_L L S2 (fun q hq => h q (by simp [hq])) r2⟩
theorem free_L {H F : Hp} : ∀ (L : List (V × O)) (S : Addr → Prop), RepL ⟨P, w, K, ⟨at_, tb, none⟩⟩ H F L S → ∀ p ∈ L, xfO p.2 = true
  | [], _, _, p, hp => absurd hp (by simp)
  | q :: L, S, ⟨S1, S2, sp, r1, r2⟩, p, hp => by
    rcases List.mem_cons.mp hp with rfl | hp
    · exact free_O _ _ S1 r1
    · exact free_L L S2 r2 p hp
theorem conv_G {H F Gx : Hp} {L : List (V × O)} (h : ∀ p ∈ L, xfO p.2 = true) (g : Good ⟨P, w, K, ⟨at_, tb, x⟩⟩ H F Gx L) : Good ⟨P, w, K, ⟨at_, tb, y⟩⟩ H F Gx L := by
  obtain ⟨S, t, a, b, c, d, e⟩ := g.ex
  exact ⟨S, t, a, b, c, d, conv_L L S h e⟩
theorem conv_S {H F Gx : Hp} {σ : L2.St} {ρ : Sls} {L : List (V × O)} (h : ∀ p ∈ L ++ slL σ ρ, xfO p.2 = true) (st : StG ⟨P, w, K, ⟨at_, tb, x⟩⟩ H F Gx σ ρ L) : StG ⟨P, w, K, ⟨at_, tb, y⟩⟩ H F Gx σ ρ L := ⟨st.wf, st.len, conv_G h st.gd⟩
theorem free_S {H F Gx : Hp} {σ : L2.St} {ρ : Sls} {L : List (V × O)} (st : StG ⟨P, w, K, ⟨at_, tb, none⟩⟩ H F Gx σ ρ L) : ∀ p ∈ L ++ slL σ ρ, xfO p.2 = true := by
  obtain ⟨S, t, a, b, c, d, e⟩ := st.gd.ex
  exact free_L _ S e
end
theorem slL_mem : ∀ {σ : L2.St} {ρ : Sls} {p : V × O}, p ∈ slL σ ρ → some p.2 ∈ ρ
  | [], ρ, p, h => by cases ρ <;> simp [slL] at h
  | s :: σ, [], p, h => by cases s <;> simp [slL] at h
  | s :: σ, r :: ρ, p, h => by
    cases r with
    | none => rw [slL_none] at h; exact List.mem_cons_of_mem _ (slL_mem h)
    | some o =>
      cases s with
      | none => rw [slL_drop] at h; exact List.mem_cons_of_mem _ (slL_mem h)
      | some v =>
        have h : p ∈ (v, o) :: slL σ ρ := h
        rcases List.mem_cons.mp h with rfl | h
        · exact List.mem_cons_self
        · exact List.mem_cons_of_mem _ (slL_mem h)
def xfR (ρ : Sls) : Bool := ρ.all fun r => match r with | none => true | some o => xfO o
def xfOut : Out → Bool
  | .rt o => xfO o
  | _ => true
/-- try .. except X as n: n is slot i; cov: which classes of exceptions the clause takes -/
def tryX (i : Nat) (cov : Nat → Option Bool) (fb fs : M Out) : M Out := fun ρ => match fb ρ with
  | some (.ex e, ρ1) => match cov e.cls with
    | some true => if i < ρ1.length then (match fs (ρ1.set i (some (.val (.exn e.cls e.ns e.vs)))) with
        | some (.ok out, ρ2) => if xfOut out = true ∧ xfR (ρ2.set i none) = true then some (.ok out, ρ2.set i none) else none
        | _ => none) else none
    | some false => some (.ex e, ρ1)
    | none => none
  | r => r
/-- try .. except X -/
def tryO (cov : Nat → Option Bool) (fb fs : M Out) : M Out := fun ρ => match fb ρ with
  | some (.ex e, ρ1) => match cov e.cls with
    | some true => (match fs ρ1 with
        | some (.ok out, ρ2) => some (.ok out, ρ2)
        | _ => none)
    | some false => some (.ex e, ρ1)
    | none => none
  | r => r
end PF

set_option Elab.async false
set_option linter.all false
set_option maxRecDepth 100000
set_option maxHeartbeats 2000000
namespace PF
open PySem PySem.Spec PyProof.Rows L2
/-! ### the rules of try .. except -/
theorem XAt.rep {P : Program} {w : World} {K : PySem.W.Frag} {at_ : Nat → Addr} {tb : List (Addr × Str)} {F : Hp} {e : Exn} {d : Option Addr} {a : Addr} (h : XAt ⟨P, w, K, ⟨at_, tb, none⟩⟩ F e d) :
    RepV ⟨P, w, K, ⟨at_, tb, some (a, d, e.cls)⟩⟩ F (.exn e.cls e.ns e.vs) (.ref a) := by
  rw [RepV]
  refine ⟨_, rfl, rfl, rfl, ?_⟩
  rcases h with h | ⟨dd, us, h1, h2, h3, h4⟩
  · exact .inl h
  · exact .inr ⟨dd, us, h1, h2, h3, conv_Vs _ _ (free_Vs _ _ h4) h4⟩
theorem xfR_mem {ρ : Sls} (h : xfR ρ = true) {o : O} (ho : some o ∈ ρ) : xfO o = true := by
  unfold xfR at h
  rw [List.all_eq_true] at h
  exact h (some o) ho
section
variable {P : Program} {w : World} {K : PySem.W.Frag} {at_ : Nat → Addr} {tb : List (Addr × Str)} {x : Option (Addr × Option Addr × Nat)} {H F Gx : Hp} {σ : L2.St} {ρ : Sls} {L : List (V × O)}
/-- behind a suite: its slot is empty, no exception is left -/
theorem suite_end {i : Nat} (hx : xfR (ρ.set i none) = true) (hL : ∀ p ∈ L, xfO p.2 = true) (st : StG ⟨P, w, K, ⟨at_, tb, x⟩⟩ H F Gx σ ρ L) : StG ⟨P, w, K, ⟨at_, tb, none⟩⟩ H F Gx (σ.set i none) (ρ.set i none) L := by
  refine conv_S (fun p hp => ?_) (st.emptyS i)
  rcases List.mem_append.mp hp with h | h
  · exact hL p h
  · exact xfR_mem hx (slL_mem h)
theorem unsuite_end {i : Nat} (hx : xfR (ρ.set i none) = true) (hL : ∀ p ∈ L, xfO p.2 = true) (st : StG ⟨P, w, K, ⟨at_, tb, none⟩⟩ H F Gx (σ.set i none) (ρ.set i none) L) : StG ⟨P, w, K, ⟨at_, tb, x⟩⟩ H F Gx (σ.set i none) (ρ.set i none) L := by
  refine conv_S (fun p hp => ?_) st
  rcases List.mem_append.mp hp with h | h
  · exact hL p h
  · exact xfR_mem hx (slL_mem h)
end
def Ca.with (ca : Ca) (a : Addr) (d : Option Addr) (c : Nat) : Ca := ⟨ca.at_, ca.tb, some (a, d, c)⟩
section
variable {W : WX} {X : Cx} {ca : Ca} {pn : List Nat} {x n : Str} {c : Value} {i : Nat} {body suite : List Stmt} {b₀ : Stmt} {np pos pos' : Pos} {cov : Nat → Option Bool} {fb fs : M Out}
theorem s_try_as (h0 : ca.xa = none) (hs : X.stack = X.env :: X.outer) (hf : X.env.frame = some X.env.locals) (hN : X.N.Nodup) (hi : X.N[i]? = some n) (hln : X.env.kindOf n = some .local) (hp : i ∉ pn) (hc : Names X x c) (tk : Takes X W)
    (hcov : ∀ k b, cov k = some b → PySem.W.exmOne X.K (.ref (ca k)) c = some b)
    (hb : ∀ (W : WX) (pn' : List (Addr × Obj)) (xe : Value → Shared → Prop), Takes (X.tr pn' xe) W → PSs (X.tr pn' xe) body (Ts (gv X ca) W pn fb))
    (hsu : ∀ (a : Addr) (oe : Obj) (d : Option Addr) (k : Nat) (pn' : List (Addr × Obj)), cov k = some true → Zc (.ref (ca k)) d oe → (∃ vs, oe.data = .fields vs) → PSs (X.suite a ((a, oe) :: pn')) (b₀ :: suite) (Ts (gv X (ca.with a d k)) W0 pn fs)) :
    PS X (.Try body [.ExceptHandler (some (.Name x np)) (some n) (b₀ :: suite) pos'] [] [] pos) (Ts (gv X ca) W pn (tryX i cov fb fs)) := by
  obtain ⟨at_, tb, xa⟩ := ca
  have h0 : xa = none := h0
  subst h0
  refine PS.imp (ps_try_as (tb := fun W => Ts (gv X ⟨at_, tb, none⟩) W pn fb) (ts := fun a cls d D σ H => ∃ k, cov k = some true ∧ cls = .ref (at_ k) ∧ Ts (gv X (Ca.with ⟨at_, tb, none⟩ a d k)) W0 pn fs D σ H) hs hf hN hi hln hc tk
    (fun W pn' xe tk _ => hb W pn' xe tk) (fun a oe cls d pn' hz hd => ⟨fun pins s σ H D I ⟨k, hk, hcl, h⟩ => (hsu a oe d k pn' hk (by rw [hcl] at hz; exact hz) hd).run pins s σ H D I h⟩)) fun D σ H ⟨F, Gx, ρ, st, r⟩ => ⟨F, Gx, ρ, st, ?_⟩
  unfold Rs tryX at r
  unfold Rs
  cases hfb : fb ρ with
  | none => rw [hfb] at r; exact r
  | some q =>
    obtain ⟨z, ρ1⟩ := q
    cases z with
    | ok out => rw [hfb] at r; exact r
    | ex e =>
      simp only [hfb] at r
      intro H1 F1 σ1 d le p1 st1 hx
      cases hcv : cov e.cls with
      | none => simp only [hcv] at r
      | some b =>
        refine ⟨b, hcov _ _ hcv, fun hb1 a ha => ?_, fun hb1 => ?_⟩
        · subst hb1
          refine ⟨e.cls, hcv, rfl, ?_⟩
          simp only [hcv] at r
          by_cases hl : i < ρ1.length
          · simp only [if_pos hl] at r
            have st2 : StG (gv X (Ca.with ⟨at_, tb, none⟩ a d e.cls)) H1 F1 Gx σ1 ρ1 [] := conv_S (free_S st1) st1
            have st3 := (st2.ofVal (v := .ref a) (d := .exn e.cls e.ns e.vs) hx.rep).store hl
            refine ⟨F1, Gx, _, st3, ?_⟩
            unfold Rs
            cases hfs : fs (ρ1.set i (some (.val (.exn e.cls e.ns e.vs)))) with
            | none => simp only [hfs] at r
            | some q2 =>
              obtain ⟨z2, ρ2⟩ := q2
              cases z2 with
              | ex e2 => simp only [hfs] at r
              | ok out =>
                simp only [hfs] at r
                by_cases hk : xfOut out = true ∧ xfR (ρ2.set i none) = true
                · simp only [if_pos hk] at r
                  intro H2 F2 σ2 le2 p2
                  have p3 : Pin pn σ (σ2.set i none) := (p1.trans (Pin.set hp)).trans (p2.trans (Pin.set hp))
                  have r2 := r H2 F2 (σ2.set i none) (le.trans le2) p3
                  have hL0 : ∀ p ∈ ([] : List (V × O)), xfO p.2 = true := fun p hp => absurd hp (by simp)
                  cases out with
                  | nx => exact fun st4 => r2 (suite_end hk.2 hL0 st4)
                  | bk => exact fun st4 => r2 (suite_end hk.2 hL0 st4)
                  | ct => exact fun st4 => r2 (suite_end hk.2 hL0 st4)
                  | rt o => exact fun v st4 => r2 v (suite_end hk.2 (fun p hp => by rw [List.mem_singleton.mp hp]; exact hk.1) st4)
                · simp only [if_neg hk] at r
          · simp only [if_neg hl] at r
        · subst hb1
          simp only [hcv] at r
          exact r H1 F1 σ1 d le p1 st1 hx
theorem s_try_only (hs : X.stack = X.env :: X.outer) (hf : X.env.frame = some X.env.locals) (hc : Names X x c) (tk : Takes X W)
    (hcov : ∀ k b, cov k = some b → PySem.W.exmOne X.K (.ref (ca k)) c = some b)
    (hb : ∀ (W : WX) (pn' : List (Addr × Obj)) (xe : Value → Shared → Prop), Takes (X.tr pn' xe) W → PSs (X.tr pn' xe) body (Ts (gv X ca) W pn fb))
    (hsu : ∀ (a : Addr) (oe : Obj) (pn' : List (Addr × Obj)), PSs (X.suite a ((a, oe) :: pn')) (b₀ :: suite) (Ts (gv X ca) W0 pn fs)) :
    PS X (.Try body [.ExceptHandler (some (.Name x np)) none (b₀ :: suite) pos'] [] [] pos) (Ts (gv X ca) W pn (tryO cov fb fs)) := by
  refine PS.imp (ps_try_only (tb := fun W => Ts (gv X ca) W pn fb) (ts := fun a cls d => Ts (gv X ca) W0 pn fs) hs hf hc tk (fun W pn' xe tk _ => hb W pn' xe tk) (fun a oe cls d pn' hz hd => hsu a oe pn')) fun D σ H ⟨F, Gx, ρ, st, r⟩ => ⟨F, Gx, ρ, st, ?_⟩
  unfold Rs tryO at r
  unfold Rs
  cases hfb : fb ρ with
  | none => rw [hfb] at r; exact r
  | some q =>
    obtain ⟨z, ρ1⟩ := q
    cases z with
    | ok out => rw [hfb] at r; exact r
    | ex e =>
      simp only [hfb] at r
      intro H1 F1 σ1 d le p1 st1 hx
      cases hcv : cov e.cls with
      | none => simp only [hcv] at r
      | some b =>
        refine ⟨b, hcov _ _ hcv, fun hb1 a ha => ?_, fun hb1 => ?_⟩
        · subst hb1
          simp only [hcv] at r
          refine ⟨F1, Gx, _, st1, ?_⟩
          unfold Rs
          cases hfs : fs ρ1 with
          | none => simp only [hfs] at r
          | some q2 =>
            obtain ⟨z2, ρ2⟩ := q2
            cases z2 with
            | ex e2 => simp only [hfs] at r
            | ok out =>
              simp only [hfs] at r
              exact fun H2 F2 σ2 le2 p2 => r H2 F2 σ2 (le.trans le2) (p1.trans p2)
        · subst hb1
          simp only [hcv] at r
          exact r H1 F1 σ1 d le p1 st1 hx
end
end PF

set_option Elab.async false
set_option linter.all false
set_option maxRecDepth 100000
set_option maxHeartbeats 2000000
namespace PF
open PySem PySem.Spec PyProof.Rows L2
/-! ### within a suite: e.f, isinstance(e, T) -/
structure XcC (K : PySem.W.Frag) (C : Addr) : Prop where
  xf : XfC K C
  cl : (PySem.W.clsIn K C).isSome = true
  ha : PySem.W.findIn K (.ref C) "__class__" = some (some (.builtin "object.__class__"))
  hm : PySem.W.mroIn K C (.type "object") = some true
  hn : PySem.W.specialIn K (.builtin "object.__class__") "__get__" = some (some (.builtin "getset_descriptor.__get__"))
  ht : PySem.W.takesIn K (.builtin "object.__class__") = some true
def xcB (K : PySem.W.Frag) (C : Addr) : Bool := xfB K C && ((PySem.W.clsIn K C).isSome && (decide (PySem.W.findIn K (.ref C) "__class__" = some (some (.builtin "object.__class__"))) && (decide (PySem.W.mroIn K C (.type "object") = some true) &&
  (decide (PySem.W.specialIn K (.builtin "object.__class__") "__get__" = some (some (.builtin "getset_descriptor.__get__"))) && decide (PySem.W.takesIn K (.builtin "object.__class__") = some true)))))
theorem xcB_ok {K : PySem.W.Frag} {C : Addr} (h : xcB K C = true) : XcC K C := by
  unfold xcB at h
  simp only [Bool.and_eq_true, decide_eq_true_eq] at h
  obtain ⟨h1, h2, h3, h4, h5, h6⟩ := h
  exact ⟨xfB_ok h1, h2, h3, h4, h5, h6⟩
def fldX (f : Str) (fe : M O) : M O := fe.bind fun o => match o with
  | .val (.exn _ ns vs) => M.of (((ns.zip vs).lookup f).map O.val)
  | _ => M.stuck
/-- sub: which classes of exceptions are below the class asked -/
def isX (sub : Nat → Option Bool) (fe : M O) : M O := fe.bind fun o => match o with
  | .val (.exn c _ _) => M.of ((sub c).map fun b => .val (.bl b))
  | _ => M.stuck
theorem look_zip {g : Gv} {F : Hp} {f : Str} : ∀ {ns : List Str} {ds : List D} {us : List V} {d : D}, RepVs g F ds us → (ns.zip ds).lookup f = some d → ∃ v, (ns.zip us).lookup f = some v ∧ RepV g F d v
  | [], ds, us, d, r, h => by simp at h
  | n :: ns, [], us, d, r, h => by simp at h
  | n :: ns, e :: ds, us, d, r, h => by
    rw [RepVs] at r
    obtain ⟨v, w, rfl, r1, r2⟩ := r
    rw [List.zip_cons_cons, List.lookup_cons] at h
    rw [List.zip_cons_cons, List.lookup_cons]
    cases q : f == n with
    | true => rw [q] at h; cases h; exact ⟨v, rfl, r1⟩
    | false => rw [q] at h; exact look_zip r2 h
section
variable {W : WX} {X : Cx} {ca : Ca} {a : Addr} {oe : Obj} {d : Option Addr} {k : Nat} {pn : List (Addr × Obj)} {e : Expr} {pos : Pos} {f : Str} {fe : M O}
theorem e_fldX (C : XcC X.K (ca k)) (hno : PySem.W.findIn X.K (.ref (ca k)) f = some none) (hz : Zc (.ref (ca k)) d oe) (hf : ∃ vs, oe.data = .fields vs) (he : PE (X.suite a ((a, oe) :: pn)) e (T (gv X (ca.with a d k)) W fe)) (hb : attributeBase e f X.env (eval e X.env) = eval e X.env := by rfl) :
    PE (X.suite a ((a, oe) :: pn)) (.Attribute e f pos) (T (gv X (ca.with a d k)) W (fldX f fe)) :=
  PE.imp (pe_xf C.xf hno hz hf he hb) fun σ H Q ⟨F, Gx, ρ, st, r⟩ => ⟨F, Gx, ρ, st, r.bind.mono fun o H1 F1 ρ1 le r1 v st1 => by
    split at r1
    · rename_i c ns vs
      obtain ⟨o1, e1, q⟩ := r1.of
      obtain ⟨d1, e2, rfl⟩ := Option.map_eq_some_iff.mp e1
      have rv := st1.gd.val (B := slL σ ρ1)
      rw [RepV] at rv
      obtain ⟨x, ex, ev, ec, h⟩ := rv
      cases ex
      rcases h with ⟨h, _⟩ | ⟨dd, us, h1, h2, h3, h4⟩
      · rw [h] at e2; cases e2
      · obtain ⟨v1, l1, rv1⟩ := look_zip h4 e2
        exact ⟨ev, rfl, dd, _, v1, h1, st1.le _ _ h2, l1, q H1 F1 (Le.refl _) v1 (st1.drop1.ofVal rv1)⟩
    · exact (show False from r1).elim⟩
/-- the class asked -/
theorem e_isX {c : V} {cv : Value} {sub : Nat → Option Bool} {ec : Expr} {p pos : Pos} (C : XcC X.K (ca k)) (hsub : ∀ b, sub k = some b → PySem.W.kitOne X.K (.ref (ca k)) cv = some b) (hcv : ∀ u, RelV c u → u = cv) (hz : Zc (.ref (ca k)) d oe) (hf : ∃ vs, oe.data = .fields vs)
    (hm : X.mg "isinstance" = none) (he : PE (X.suite a ((a, oe) :: pn)) e (T (gv X (ca.with a d k)) W fe)) (hc : PE (X.suite a ((a, oe) :: pn)) ec (tC c)) (hg : Gl X "isinstance" := by rfl)
    (hs : starEach [e, ec] X.env = (false, eval e X.env) :: starEach [ec] X.env := by rfl) (hs2 : starEach [ec] X.env = (false, eval ec X.env) :: starEach [] X.env := by rfl) (hpl : (backTo pos (starEach [ec] X.env)).any (·.1) = false := by rfl) :
    PE (X.suite a ((a, oe) :: pn)) (.Call (.Name "isinstance" p) [e, ec] [] pos) (T (gv X (ca.with a d k)) W (isX sub fe)) := by
  have rule : CallR (X.suite a ((a, oe) :: pn)) (.builtin "isinstance") (fun xs H Q => ∃ F b, xs = [.ref a, c] ∧ sub k = some b ∧ Le F H ∧ (∀ dd, d = some dd → ∃ fs, F dd = some (.xd fs)) ∧ Q (.bl b) H) := by
    intro pins s σ H xs us Q I r ⟨F, b, e1, hb, le, hd, q⟩
    subst e1
    cases r with
    | cons rx rr =>
      cases rr with
      | cons rt rr =>
        cases rr
        cases rx
        have e2 := hcv _ rt
        subst e2
        obtain ⟨hget, _⟩ := I.pin (a, oe) (List.mem_append.mpr (.inl List.mem_cons_self))
        obtain ⟨vs, hv⟩ := hf
        obtain ⟨od, J⟩ : ∃ od, PySem.W.InstAt s.heap a oe (ca k) od := by
          obtain ⟨h1, h2⟩ := hz
          cases hdd : d with
          | none => exact ⟨none, hget, h1, by unfold PySem.W.notCls; rw [hv] <;> rfl, by rw [h2, hdd]; trivial⟩
          | some dd =>
            obtain ⟨fs, hF⟩ := hd dd hdd
            obtain ⟨mA, hns, _⟩ := (I.hok dd _ (le _ _ hF) : ObjOk X.prog X.w H s.heap dd (.xd fs))
            obtain ⟨od, ho, _⟩ := lookIn_ns hns
            exact ⟨some od, hget, h1, by unfold PySem.W.notCls; rw [hv] <;> rfl, by rw [h2, hdd]; exact ho⟩
        exact PySem.W.kia_one (PySem.W.kitx_exc C.cl C.xf.ga C.xf.gg C.xf.exC C.ha C.hn C.ht C.hm) I.kIn J (hsub b hb) (fun z => nomatch z) fun tk => ⟨.bl b, H, I.kept (t' := tk) fun _ _ z => z, rfl, q⟩
  have hst2 : starEach [e, ec] (X.suite a ((a, oe) :: pn)).env = (false, eval e (X.suite a ((a, oe) :: pn)).env) :: starEach [ec] (X.suite a ((a, oe) :: pn)).env := hs
  refine PE.imp (pe_callB (X := X.suite a ((a, oe) :: pn)) (id := "isinstance") rule hg hm boot_isinstance (pa_cons he (pa_cons hc pa_nil hs2) hs) (by decide) (by decide) hs hpl) fun σ H Q ⟨F, Gx, ρ, st, r⟩ => ⟨F, Gx, ρ, st, r.bind.mono fun o H1 F1 ρ1 le r1 v st1 => ?_⟩
  split at r1
  · rename_i c0 ns vs
    obtain ⟨o1, e1, q⟩ := r1.of
    obtain ⟨b, e2, rfl⟩ := Option.map_eq_some_iff.mp e1
    have rv := st1.gd.val (B := slL σ ρ1)
    rw [RepV] at rv
    obtain ⟨x, ex, ev, ec0, h⟩ := rv
    cases ex
    have ec0 : k = c0 := ec0
    subst ec0
    refine ⟨F1, b, by rw [ev], e2, st1.le, fun dd hdd => ?_, q H1 F1 (Le.refl _) (.bl b) (st1.drop1.ofVal repB)⟩
    subst hdd
    rcases h with ⟨_, h⟩ | ⟨dd', us, h1, h2, h3, h4⟩
    · cases h
    · cases h1; exact ⟨_, h2⟩
  · exact (show False from r1).elim
end
end PF

set_option Elab.async false
set_option linter.all false
set_option maxRecDepth 100000
set_option maxHeartbeats 2000000
namespace PF
open PySem PySem.Spec PyProof.Rows L2
/-! ### xs.index(y), xs.count(y) -/
def isLst : O → Bool
  | .lst _ => true
  | .val (.lst _) => true
  | _ => false
/-- a method of the list in slot i, one argument that is looked at -/
def lm1 (i : Nat) (G : O → O → Option O) (fe : M O) : M O := (pk i).bind fun o0 => if isLst o0 = true then fe.bind fun y => (pk i).bind fun o => M.of (G o y) else M.stuck
def rLm (g : Gv) (G : O → O → Option O) : V → List V → Hp → VK → Prop := fun x xs H Q => ∃ F Gx σ ρ a o y S1 S2 res, xs = [y] ∧ StG g H F Gx σ ρ [] ∧ RepO g H F a x S1 ∧ RepO g H F o y S2 ∧ G a o = some res ∧ Yd g H F Gx σ ρ res Q
theorem tyV_lst {g : Gv} {H F : Hp} {o : O} {v : V} {S : Addr → Prop} (le : Le F H) (h : isLst o = true) (r : RepO g H F o v S) : tyV g.K "list" v H := by
  cases o with
  | lst os =>
    rw [RepO] at r
    obtain ⟨a, vs, rfl, _, q, _⟩ := r
    exact .inl ⟨rfl, vs, SqL.of q⟩
  | val d =>
    cases d with
    | lst ds =>
      rw [RepO, RepV] at r
      obtain ⟨a, vs, rfl, q, _⟩ := r
      exact .inl ⟨rfl, vs, SqL.of (le _ _ q)⟩
    | _ => cases h
  | _ => cases h
section
variable {W : WX} {X : Cx} {ca : Ca} {a e : Expr} {apos pos : Pos} {fe : M O} {i : Nat}
theorem pk_run {g : Gv} {k : O → M O} {σ : L2.St} {H F Gx : Hp} {ρ : Sls} {R : O → Hp → Hp → Sls → Prop} (r : Rn g W ((pk i).bind k) σ H F Gx ρ R) : ∃ o, ρ[i]? = some (some o) ∧ Rn g W (k o) σ H F Gx ρ R := by
  obtain ⟨z, ρ', e⟩ := r.run
  unfold Rn M.bind pk at r
  cases q : ρ[i]? with
  | none => simp only [q] at r
  | some s =>
    cases s with
    | none => simp only [q] at r
    | some o =>
      simp only [q] at r
      exact ⟨o, rfl, r⟩
theorem e_lm1 {id : String} {name : Str} {G : O → O → Option O} (slot : Slot "list" name id) (ty : typeOf (.builtin id) = pure (.type "method_descriptor")) (rule : MtR X id (rLm (gv X ca) G)) (ha : PE X a (tVar i)) (hb : PE X e (TR (gv X ca) W fe))
    (hs : starEach [e] X.env = (false, eval e X.env) :: starEach [] X.env := by rfl) (hbase : attributeBase a name X.env (eval a X.env) = eval a X.env := by rfl) (hline : (apos.endLine == pos.line) = true := by rfl)
    (hfew : ((backTo pos (starEach [e] X.env)).all (fun x => !x.1) && (backToKw pos (keywordEach [] X.env)).all (fun x => x.1.isSome)
      && decide ([e].length + ([] : List Keyword).length + (if ([] : List Keyword).isEmpty then 0 else 1) < 30)) = true := by rfl) (hplain : (backTo pos (starEach [] X.env)).any (·.1) = false := by rfl) :
    PE X (.Call (.Attribute a name apos) [e] [] pos) (T (gv X ca) W (lm1 i G fe)) :=
  PE.imp (pe_bm PySem.F.plainAttrs_list slot ty rule ha (pa_cons hb pa_nil hs) hbase hfew hline hs hplain) fun σ H Q ⟨F, Gx, ρ, st, r⟩ => by
    obtain ⟨o0, h0, r0⟩ := pk_run r
    obtain ⟨v, S, hv, rv⟩ := st.peek h0
    split at r0
    · rename_i hl
      refine ⟨v, hv, tyV_lst st.le hl rv, F, Gx, ρ, st, r0.bind.mono fun y H1 F1 ρ1 le r1 w S1 st1 ry => ?_⟩
      obtain ⟨o, h1, r2⟩ := pk_run r1
      obtain ⟨v1, S2, hv1, rv1⟩ := st1.peek h1
      rw [hv] at hv1
      cases hv1
      obtain ⟨res, e, q⟩ := r2.of
      exact ⟨F1, Gx, σ, ρ1, o, y, w, S2, S1, res, rfl, st1, rv1, ry, e, fun v H3 F3 le3 st3 => q H3 F3 le3 v st3⟩
    · exact (show False from r0).elim
end
def idxL (a y : O) : Option O := match fz a with
  | .lst ds => if okD 16 (.lst ds) && okD 16 (fz y) then (ds.findIdx? fun z => z.eqv (fz y)).map fun j => .val (.int (j : Nat)) else none
  | _ => none
def cntL (a y : O) : Option O := match fz a with
  | .lst ds => if okD 16 (.lst ds) && okD 16 (fz y) && PyData.plainAll (toPys ds) && PyData.plain (toPy (fz y)) then some (.val (.int (ds.countP fun z => z.eqv (fz y) : Nat))) else none
  | _ => none
section
variable {X : Cx} {ca : Ca}
theorem mr_idxL (hu : X.A.units + 65 < cLine) : MtR X "list.index" (rLm (gv X ca) idxL) := by
  intro pins s σ H x xs v us Q I rx rs ⟨F, Gx, σ', ρ, a, o, y, S1, S2, res, e1, st, ra, ro, e, yd⟩
  unfold idxL at e
  split at e
  · rename_i ds hd
    split at e
    · rename_i hk
      rw [Bool.and_eq_true] at hk
      obtain ⟨j, hj, rfl⟩ := Option.map_eq_some_iff.mp e
      obtain ⟨hl, h1, h2⟩ := List.findIdx?_eq_some_iff_getElem.mp hj
      have hk1 : okD 16 (fz a) = true := by rw [hd]; exact hk.1
      have da := dpO_of 16 a x S1 st.le hk1 ra
      have dy := dpO_of 16 o y S2 st.le hk.2 ro
      rw [hd, toPy] at da
      obtain ⟨m, hm, hds⟩ := okD_lst.mp hk.1
      obtain ⟨p, rfl⟩ : ∃ p, x = .ref p := by cases da with | lst _ _ => exact ⟨_, rfl⟩
      have sh : SeqAt.shaped (.list (toPys ds)) = true := by
        have := okD_shaped hk.1 (by decide)
        rw [toPy] at this; exact this
      refine mt_indexD hu pins s σ H _ _ v us Q I rx rs ⟨p, y, toPy (fz o), toPys ds, j, toPy ds[j], rfl, e1, da, dy, sh, okD_shaped hk.2 (by decide), ?_, ?_, ?_, yd.val st repI⟩
      · rw [toPys_map, List.getElem?_map, List.getElem?_eq_getElem hl]; rfl
      · rw [eqv_py m 16 _ _ (hds _ (List.getElem_mem hl)) hk.2]; exact h1
      · intro i z hi hz
        rw [toPys_map, List.getElem?_map, List.getElem?_eq_getElem (by omega)] at hz
        cases hz
        rw [eqv_py m 16 _ _ (hds _ (List.getElem_mem _)) hk.2]
        simpa using h2 i hi
    · cases e
  · cases e
theorem mr_cntL (hu : X.A.units + 65 < cLine) : MtR X "list.count" (rLm (gv X ca) cntL) := by
  intro pins s σ H x xs v us Q I rx rs ⟨F, Gx, σ', ρ, a, o, y, S1, S2, res, e1, st, ra, ro, e, yd⟩
  unfold cntL at e
  split at e
  · rename_i ds hd
    split at e
    · rename_i hk
      simp only [Bool.and_eq_true] at hk
      obtain ⟨⟨⟨hk1, hk2⟩, hk3⟩, hk4⟩ := hk
      cases e
      have hk1' : okD 16 (fz a) = true := by rw [hd]; exact hk1
      have da := dpO_of 16 a x S1 st.le hk1' ra
      have dy := dpO_of 16 o y S2 st.le hk2 ro
      rw [hd, toPy] at da
      obtain ⟨m, hm, hds⟩ := okD_lst.mp hk1
      subst e1
      obtain ⟨u, rfl, ru⟩ := rs.one
      obtain ⟨bs, r2⟩ := Dp.reads I _ y u dy ru
      have sh : SeqAt.shaped (.list (toPys ds)) = true := by
        have := okD_shaped hk1 (by decide)
        rw [toPy] at this; exact this
      have hroom : X.A.units + 1 + min (PyData.depthAll (toPys ds)) (toPy (fz o)).depth < cLine := room_in_shaped (okD_shaped hk2 (by decide)) hu
      cases da with
      | lst hs ha =>
        cases rx
        obtain ⟨its, rv, pl, hz⟩ := I.list hs
        obtain ⟨as, r1⟩ := Dp.readsAll I _ _ its ha rv
        refine SeqAt.count_list_data (vs := its.toArray) pl.isList r1 r2 hk3 hk4 hroom ?_
        refine ⟨.int _, H, I.tok _, ⟨s.toks, rfl⟩, ?_⟩
        have ec : (toPys ds).countP (fun z => PyData.eqv z (toPy (fz o))) = ds.countP (fun z => z.eqv (fz o)) := by
          rw [toPys_map, List.countP_map]
          refine List.countP_congr fun z hz => ?_
          show PyData.eqv (toPy z) (toPy (fz o)) = true ↔ _
          rw [eqv_py m 16 _ _ (hds z hz) hk2]
        rw [ec]
        exact yd.val st repI
    · cases e
  · cases e
end
section
variable {W : WX} {X : Cx} {ca : Ca} {a e : Expr} {apos pos : Pos} {fe : M O} {i : Nat}
theorem e_idxL (hu : X.A.units + 65 < cLine) (ha : PE X a (tVar i)) (hb : PE X e (TR (gv X ca) W fe)) (hs : starEach [e] X.env = (false, eval e X.env) :: starEach [] X.env := by rfl) (hbase : attributeBase a "index" X.env (eval a X.env) = eval a X.env := by rfl) (hline : (apos.endLine == pos.line) = true := by rfl)
    (hfew : ((backTo pos (starEach [e] X.env)).all (fun x => !x.1) && (backToKw pos (keywordEach [] X.env)).all (fun x => x.1.isSome)
      && decide ([e].length + ([] : List Keyword).length + (if ([] : List Keyword).isEmpty then 0 else 1) < 30)) = true := by rfl) (hplain : (backTo pos (starEach [] X.env)).any (·.1) = false := by rfl) :
    PE X (.Call (.Attribute a "index" apos) [e] [] pos) (T (gv X ca) W (lm1 i idxL fe)) := e_lm1 PySem.F.slot_list_index PySem.F.type_list_index (mr_idxL hu) ha hb hs hbase hline hfew hplain
theorem e_cntL (hu : X.A.units + 65 < cLine) (ha : PE X a (tVar i)) (hb : PE X e (TR (gv X ca) W fe)) (hs : starEach [e] X.env = (false, eval e X.env) :: starEach [] X.env := by rfl) (hbase : attributeBase a "count" X.env (eval a X.env) = eval a X.env := by rfl) (hline : (apos.endLine == pos.line) = true := by rfl)
    (hfew : ((backTo pos (starEach [e] X.env)).all (fun x => !x.1) && (backToKw pos (keywordEach [] X.env)).all (fun x => x.1.isSome)
      && decide ([e].length + ([] : List Keyword).length + (if ([] : List Keyword).isEmpty then 0 else 1) < 30)) = true := by rfl) (hplain : (backTo pos (starEach [] X.env)).any (·.1) = false := by rfl) :
    PE X (.Call (.Attribute a "count" apos) [e] [] pos) (T (gv X ca) W (lm1 i cntL fe)) := e_lm1 PySem.F.slot_list_count PySem.F.type_list_count (mr_cntL hu) ha hb hs hbase hline hfew hplain
end
end PF

set_option Elab.async false
set_option linter.all false
set_option maxRecDepth 100000
set_option maxHeartbeats 2000000
namespace PF
open PySem PySem.Spec PyProof.Rows L2
/-! ### what is raised, from behind -/
def Ex {α : Type} (f : M α) (ρ : Sls) (R : Exn → Sls → Prop) : Prop := ∃ e ρ', f ρ = some (.ex e, ρ') ∧ R e ρ'
section
variable {α β : Type} {f : M α} {ρ : Sls} {R R' : Exn → Sls → Prop}
theorem Ex.mono (h : Ex f ρ R) (i : ∀ e ρ', R e ρ' → R' e ρ') : Ex f ρ R' := let ⟨a, ρ', e, r⟩ := h; ⟨a, ρ', e, i a ρ' r⟩
/-- f raises -/
theorem ex_at {k : α → M β} (h : Ex f ρ R) : Ex (f.bind k) ρ R := by
  obtain ⟨e, ρ', q, r⟩ := h
  exact ⟨e, ρ', by unfold M.bind; rw [q], r⟩
/-- what comes behind f raises -/
theorem ex_on {k : α → M β} (h : Ev f ρ fun a ρ1 => Ex (k a) ρ1 R) : Ex (f.bind k) ρ R := by
  obtain ⟨a, ρ1, q, e, ρ', q2, r⟩ := h
  exact ⟨e, ρ', by unfold M.bind; rw [q]; exact q2, r⟩
theorem ex_raise {e : Exn} (h : R e ρ) : Ex (M.raise e : M α) ρ R := ⟨e, ρ, rfl, h⟩
end
section
variable {ρ : Sls} {R : Exn → Sls → Prop}
theorem ex_defM {n : Nat} {f : M Out} (h : Ex f (ρ ++ List.replicate (n - ρ.length) none) R) : Ex (defM n f) ρ R := by
  obtain ⟨e, ρ', q, r⟩ := h
  exact ⟨e, ρ', by unfold defM; rw [q], r⟩
theorem ex_seqA {f k : M Out} (h : Ex f ρ R) : Ex (seqS f k) ρ R := ex_at h
theorem ex_seqO {f k : M Out} (h : Ev f ρ fun out ρ1 => out = .nx ∧ Ex k ρ1 R) : Ex (seqS f k) ρ R :=
  ex_on (h.mono fun out ρ1 ⟨e, q⟩ => by subst e; exact q)
theorem ex_ite {α : Type} {fc : M Bool} {a b : M α} (h : Ev fc ρ fun c ρ1 => if c = true then Ex a ρ1 R else Ex b ρ1 R) : Ex (iteM fc a b) ρ R := by
  unfold iteM
  exact ex_on (h.mono fun c ρ1 q => by cases c <;> simpa using q)
theorem ex_exprS {f : M O} (h : Ex f ρ R) : Ex (exprS f) ρ R := ex_at h
theorem ex_retS {f : M O} (h : Ex f ρ R) : Ex (retS f) ρ R := ex_at h
theorem ex_setS {i : Nat} {f : M O} (h : Ex f ρ R) : Ex (setS i f) ρ R := ex_at h
theorem ex_raiseF {C : Nat} {ns : List Str} {fs : M (List O)} (h : Ev fs ρ fun os ρ1 => (os.length = ns.length ∧ ns.length ≤ 900) ∧ R ⟨C, ns.reverse, (fzs os).reverse⟩ ρ1) : Ex (raiseF C ns fs) ρ R :=
  ex_on (h.mono fun os ρ1 ⟨k, q⟩ => by rw [if_pos k]; exact ex_raise q)
theorem ex_call {ks : List (Option Nat)} {fs : M (List O)} {ms : List Bool} {sem : M O} (h : Ev fs ρ fun os ρ1 => ∃ c ρr, bld ks os ρ1 = some (c, ρr) ∧ Ex sem c fun e c' => R e (unbld ks (mask ms c') ρr)) : Ex (callF ks fs ms sem) ρ R := by
  unfold callF
  refine ex_on (f := fs) (h.mono fun os ρ1 ⟨c, ρr, hb, e, c', hs, r⟩ => ?_)
  exact ⟨e, _, by simp only [hb, hs], r⟩
/-- a loop that raises -/
theorem forL_ex {h : O → M Unit} {fb : M Out} (Iv : List D → Sls → Prop) (hs : ∀ d ds ρ, Iv (d :: ds) ρ → Ev (h (.val d)) ρ fun _ ρ1 => Ex fb ρ1 R ∨ Ev fb ρ1 fun out ρ2 => (out = .nx ∨ out = .ct) ∧ Iv ds ρ2) (he : ∀ ρ, Iv [] ρ → False) : ∀ (ds : List D) (ρ : Sls), Iv ds ρ → Ex (forL h fb ds) ρ R
  | [], ρ, i => (he ρ i).elim
  | d :: ds, ρ, i => by
    rw [forL]
    refine ex_on ((hs d ds ρ i).mono fun _ ρ1 q => ?_)
    rcases q with q | q
    · exact ex_at q
    · refine ex_on (q.mono fun out ρ2 ⟨q1, q2⟩ => ?_)
      rcases q1 with rfl | rfl
      · exact forL_ex Iv hs he ds ρ2 q2
      · exact forL_ex Iv hs he ds ρ2 q2
/-- try: nothing is raised -/
theorem ev_tryT {i : Nat} {cov : Nat → Option Bool} {fb fs : M Out} {Q : Out → Sls → Prop} (h : Ev fb ρ Q) : Ev (tryX i cov fb fs) ρ Q := by
  obtain ⟨a, ρ', e, r⟩ := h
  exact ⟨a, ρ', by unfold tryX; rw [e], r⟩
/-- .. what is raised is taken -/
theorem ev_tryC {i : Nat} {cov : Nat → Option Bool} {fb fs : M Out} {Q : Out → Sls → Prop} (h : Ex fb ρ fun e ρ1 => cov e.cls = some true ∧ i < ρ1.length ∧ Ev fs (ρ1.set i (some (.val (.exn e.cls e.ns e.vs)))) fun out ρ2 => (xfOut out = true ∧ xfR (ρ2.set i none) = true) ∧ Q out (ρ2.set i none)) :
    Ev (tryX i cov fb fs) ρ Q := by
  obtain ⟨e, ρ1, q, hc, hi, out, ρ2, q2, hx, r⟩ := h
  exact ⟨out, _, by unfold tryX; simp only [q, hc, if_pos hi, q2, if_pos hx], r⟩
theorem ev_tryOT {cov : Nat → Option Bool} {fb fs : M Out} {Q : Out → Sls → Prop} (h : Ev fb ρ Q) : Ev (tryO cov fb fs) ρ Q := by
  obtain ⟨a, ρ', e, r⟩ := h
  exact ⟨a, ρ', by unfold tryO; rw [e], r⟩
theorem ev_tryOC {cov : Nat → Option Bool} {fb fs : M Out} {Q : Out → Sls → Prop} (h : Ex fb ρ fun e ρ1 => cov e.cls = some true ∧ Ev fs ρ1 Q) : Ev (tryO cov fb fs) ρ Q := by
  obtain ⟨e, ρ1, q, hc, out, ρ2, q2, r⟩ := h
  exact ⟨out, ρ2, by unfold tryO; simp only [q, hc, q2], r⟩
end
end PF

set_option Elab.async false
set_option linter.all false
set_option maxRecDepth 100000
set_option maxHeartbeats 2000000
namespace PF
open PySem PySem.Spec PyProof.Rows L2
/-! ### zip of two tuples, walked -/
def zipD (ds es : List D) : List D := (ds.zip es).map fun p => .tup [p.1, p.2]
def zipI (fs : M (List O)) : M (List D) := fs.bind fun os => match os with
  | [.val (.tup ds), .val (.tup es)] => M.pure (zipD ds es)
  | _ => M.stuck
theorem zipD_at {ds es : List D} {i : Nat} {d : D} (h : (zipD ds es)[i]? = some d) : ∃ x y, ds[i]? = some x ∧ es[i]? = some y ∧ d = .tup [x, y] := by
  unfold zipD at h
  rw [List.getElem?_map] at h
  obtain ⟨p, hp, rfl⟩ := Option.map_eq_some_iff.mp h
  obtain ⟨x, y⟩ := p
  rw [List.getElem?_zip_eq_some] at hp
  exact ⟨x, y, hp.1, hp.2, rfl⟩
theorem RepVs.len {g : Gv} {F : Hp} : ∀ {ds : List D} {vs : List V}, RepVs g F ds vs → vs.length = ds.length := fun r => r.length
theorem itg_zipT {g : Gv} {F0 : Hp} {ds es : List D} {vs us : List V} {a b : Addr} (ha : SqT g.K F0 a vs) (ra : RepVs g F0 ds vs) (hb : SqT g.K F0 b us) (rb : RepVs g F0 es us) : ItG g (RZ.ItzT g.K a b) (Fz F0) (zipD ds es) where
  go := fun i H F hi z => by
    have hl : (zipD ds es).length = min ds.length es.length := by unfold zipD; rw [List.length_map, List.length_zip]
    rw [hl] at hi
    have h1 := ra.len
    have h2 := rb.len
    exact ⟨vs, us, vs[i]'(by omega), us[i]'(by omega), SqT.mono z.2 (SqT.mono z.1 ha), SqT.mono z.2 (SqT.mono z.1 hb), by simp, by simp⟩
  stop := fun H F z => by
    have hl : (zipD ds es).length = min ds.length es.length := by unfold zipD; rw [List.length_map, List.length_zip]
    have h1 := ra.len
    have h2 := rb.len
    exact ⟨vs, us, SqT.mono z.2 (SqT.mono z.1 ha), SqT.mono z.2 (SqT.mono z.1 hb), by omega⟩
  yld := fun i d H F Gx σ ρ L v H' hd z st y => by
    obtain ⟨T, x, y, rfl, hT, rfl, hx, hy⟩ := y
    obtain ⟨dx, dy, h1, h2, rfl⟩ := zipD_at hd
    obtain ⟨u, k1, k2⟩ := ra.get h1
    obtain ⟨w, k3, k4⟩ := rb.get h2
    have e1 := hx vs (SqT.mono z.2 (SqT.mono z.1 ha))
    have e2 := hy us (SqT.mono z.2 (SqT.mono z.1 hb))
    rw [k1] at e1; cases e1
    rw [k3] at e2; cases e2
    exact newPair st hT (RepV.mono g z.1 _ _ k2) (RepV.mono g z.1 _ _ k4)
section
variable {W : WX} {X : Cx} {ca : Ca} {e e2 : Expr} {p pos tpos : Pos} {elts : List Expr} {kk : Nat} {fs : M (List O)}
theorem i_zip (hg : Gl X "zip") (hm : X.mg "zip" = none) (ha : PA X [e, e2] (TL (gv X ca) W fs)) (hs : starEach [e, e2] X.env = (false, eval e X.env) :: starEach [e2] X.env := by rfl) (hpl : (backTo pos (starEach [e2] X.env)).any (·.1) = false := by rfl) :
    PI X (.Tuple elts kk tpos) (.Call (.Name "zip" p) [e, e2] [] pos) (Ti (gv X ca) W (zipI fs)) :=
  PI.imp (RZ.pi_zipA hg hm ha hs hpl) fun σ H R ⟨F, Gx, ρ, st, r⟩ => ⟨F, Gx, ρ, st, r.bind.mono fun os H1 F1 ρ1 le r1 vs hl st1 => by
    split at r1
    · rename_i ds es
      match vs, hl with
      | [v, u], _ =>
        have r1v := st1.gd.val (B := (u, O.val (.tup es)) :: ([] ++ slL σ ρ1))
        have r2v := st1.drop1.gd.val (B := [] ++ slL σ ρ1)
        rw [RepV] at r1v r2v
        obtain ⟨a, xs, rfl, ha, ra⟩ := r1v
        obtain ⟨b, ys, rfl, hb, rb⟩ := r2v
        have st2 := st1.drop1.drop1
        exact ⟨a, b, xs, ys, rfl, .inr ⟨SqT.mono st2.le ha, SqT.mono st2.le hb, r1.pure H1 F1 (Le.refl _) _ F1 (Le.refl _) st2 (itg_zipT ha ra hb rb)⟩⟩
    · exact (show False from r1).elim⟩
end
/-! ### xs[::-1] -/
def revF (fe : M O) : M O := fe.bind fun o => M.of (o.dsL.map fun ds => .lst (ds.reverse.map .val))
section
variable {W : WX} {X : Cx} {ca : Ca} {e : Expr} {fe : M O} {k : Nat} {p1 p2 p3 pos : Pos}
theorem e_revL (he : PE X e (TR (gv X ca) W fe)) : PE X (.Subscript e (.Slice none none (some (.UnaryOp .USub (.Constant (.int 1) k p1) p2)) p3) pos) (T (gv X ca) W (revF fe)) :=
  PE.imp (pe_revL he) fun σ H Q ⟨F, Gx, ρ, st, r⟩ => ⟨F, Gx, ρ, st, r.bind.mono fun o H1 F1 ρ1 le r1 v S st1 rv => by
    obtain ⟨o1, e1, q⟩ := r1.of
    obtain ⟨ds, e2, rfl⟩ := Option.map_eq_some_iff.mp e1
    obtain ⟨a, vs, rfl, ha, rr⟩ := dsL_ok st1.le rv e2
    refine ⟨a, vs, rfl, SqL.of ha, ?_⟩
    exact Yd.lst (F := F1) (fun v H' F' le3 st3 => q H' F' le3 v st3) st1 rr.rev⟩
end
end PF

set_option Elab.async false
set_option linter.all false
set_option maxRecDepth 100000
set_option maxHeartbeats 2000000
namespace PF
open PySem PySem.Spec PyProof.Rows L2
/-! ### what a run of the top shows of exceptions -/
def oexL (K : PySem.W.Frag) (C : Addr) : Bool := match K.lookup C with
  | some ⟨.type "type", _, .cls cd, sl⟩ => (match cd.mro, sl.toList with
    | .ref D :: bm, [_, _, _, _, some (.builtin nw), _] => (D == C) && ((nw == "ValueError.__new__") && (!cd.hasDel && (cd.hasDict && PySem.HandSPX.refsVE bm)))
    | _, _ => false)
  | _ => false
def oexB (K : PySem.W.Frag) (C : Addr) : Bool := oexL K C && (decide (PySem.W.findIn K (.ref C) "__setattr__" = some (some (.builtin "object.__setattr__"))) && (decide (PySem.W.subIn K (.ref C) (.type "BaseException") = some true) &&
  (decide (PySem.W.typeIn K (.ref C) = some (.type "type")) && PySem.W.keepIn K (.ref C))))
theorem oexL_ok {K : PySem.W.Frag} {C : Addr} (h : oexL K C = true) : ∃ nm q N bs bm sn sub ab col dd k0 k1 k2 k3 k5, K.lookup C = some (excClassObj nm q C N bs bm true sn sub ab col dd k0 k1 k2 k3 k5 "ValueError.__new__") ∧ PySem.HandSPX.refsVE bm = true := by
  unfold oexL at h
  split at h
  · rename_i dd cd sl hk
    split at h
    · rename_i D bm k0 k1 k2 k3 nw k5 hmro hslots
      rw [Bool.and_eq_true, Bool.and_eq_true, Bool.and_eq_true, Bool.and_eq_true, beq_iff_eq, beq_iff_eq, Bool.not_eq_true'] at h
      obtain ⟨e1, e2, e3, e4, e5⟩ := h
      subst e1 e2
      obtain ⟨nm, bs, mro, N, qn, hd, sn, sub, ab, col, del⟩ := cd
      dsimp only at hmro e3 e4
      subst hmro e3 e4
      obtain ⟨sl⟩ := sl
      have hslots : sl = _ := hslots
      subst hslots
      exact ⟨nm, qn, N, bs, bm, sn, sub, ab, col, dd, k0, k1, k2, k3, k5, hk, e5⟩
    · cases h
  · cases h
theorem oexB_ok {K : PySem.W.Frag} {C : Addr} (h : oexB K C = true) : OexC K C := by
  unfold oexB at h
  simp only [Bool.and_eq_true, decide_eq_true_eq] at h
  obtain ⟨h1, h2, h3, h4, h5⟩ := h
  exact ⟨oexL_ok h1, h2, h3, h4, h5⟩
def xinB (K : PySem.W.Frag) (C fI : Addr) (fs : List Str) : Bool := oexB K C && (decide (PySem.W.findIn K (.ref C) "__init__" = some (some (.ref fI))) && (decide (PySem.W.typeIn K (.ref fI) = some (.type "function")) && fs.all fun f => decide (PySem.W.findIn K (.ref C) f = some none)))
section
variable {P : Program} {w : World} {K : PySem.W.Frag} {mg : Str → Option Value} {base : Heap} {ca : Ca} {C : Nat} {x : Str} {ns ps : List Str} {fI : Addr} {fd : FuncData}
theorem ownX_of (h : xinB K (ca C) fI ns = true) (hm : mg x = some (.ref (ca C))) (hb : Binds K fd ps []) (F : FnOk P w K mg base (L2.CX P w) 1 fI fd ps (spX K ns)) (h0 : 0 < ns.length) : OwnX P w K mg base ca C x ns := by
  unfold xinB at h
  simp only [Bool.and_eq_true, decide_eq_true_eq, List.all_eq_true] at h
  obtain ⟨h1, h2, h3, h4⟩ := h
  exact ⟨fI, fd, ps, hm, oexB_ok h1, h2, h3, hb, F, h4, h0⟩
end
/-- which classes a clause takes, of those told -/
def covT (tb : List (Nat × Bool)) : Nat → Option Bool := fun k => tb.lookup k
def covB (K : PySem.W.Frag) (at_ : Nat → Addr) (c : Value) (tb : List (Nat × Bool)) : Bool := tb.all fun p => decide (PySem.W.exmOne K (.ref (at_ p.1)) c = some p.2)
def subB (K : PySem.W.Frag) (at_ : Nat → Addr) (c : Value) (tb : List (Nat × Bool)) : Bool := tb.all fun p => decide (PySem.W.kitOne K (.ref (at_ p.1)) c = some p.2)
theorem look_mem {tb : List (Nat × Bool)} {k : Nat} {b : Bool} (h : tb.lookup k = some b) : (k, b) ∈ tb := by
  induction tb with
  | nil => cases h
  | cons p tb ih =>
    obtain ⟨j, c⟩ := p
    rw [List.lookup_cons] at h
    cases q : k == j with
    | true => rw [q] at h; cases h; rw [beq_iff_eq.mp q]; exact List.mem_cons_self
    | false => rw [q] at h; exact List.mem_cons_of_mem _ (ih h)
theorem covB_ok {K : PySem.W.Frag} {at_ : Nat → Addr} {c : Value} {tb : List (Nat × Bool)} (h : covB K at_ c tb = true) : ∀ k b, covT tb k = some b → PySem.W.exmOne K (.ref (at_ k)) c = some b := fun k b e => by
  unfold covB at h
  rw [List.all_eq_true] at h
  exact of_decide_eq_true (h _ (look_mem e))
theorem subB_ok {K : PySem.W.Frag} {at_ : Nat → Addr} {c : Value} {tb : List (Nat × Bool)} (h : subB K at_ c tb = true) : ∀ k b, covT tb k = some b → PySem.W.kitOne K (.ref (at_ k)) c = some b := fun k b e => by
  unfold subB at h
  rw [List.all_eq_true] at h
  exact of_decide_eq_true (h _ (look_mem e))
def xcF (K : PySem.W.Frag) (C : Addr) (fs : List Str) : Bool := xcB K C && fs.all fun f => decide (PySem.W.findIn K (.ref C) f = some none)
theorem xcF_ok {K : PySem.W.Frag} {C : Addr} {fs : List Str} (h : xcF K C fs = true) : XcC K C ∧ ∀ f ∈ fs, PySem.W.findIn K (.ref C) f = some none := by
  unfold xcF at h
  rw [Bool.and_eq_true, List.all_eq_true] at h
  exact ⟨xcB_ok h.1, fun f hf => of_decide_eq_true (h.2 f hf)⟩
end PF

set_option Elab.async false
set_option linter.all false
set_option maxRecDepth 100000
set_option maxHeartbeats 2000000
namespace PF
open PySem PySem.Spec PyProof.Rows L2
/-! ### what the names reach, and the table of statics -/
def asY (g : Addr → Option Obj) (n : Nat) : List Addr := He.asD g n ++ [cStatics]
def frY (g : Addr → Option Obj) (n : Nat) : PySem.W.Frag := He.frT g (asY g n)
section
variable {n : Nat} {fa : List He.Fa} {fn : List He.DefD} {ts : List He.Tab} {tf : List He.Defn} {ex : PySem.W.Frag → Bool}
def obsY (n : Nat) (fa : List He.Fa) (fn : List He.DefD) (ts : List He.Tab) (tf : List He.Defn) (ex : PySem.W.Frag → Bool) (g : Addr → Option Obj) : He.AlX := (He.obsT fa fn ts (frY g n), ex (frY g n) && He.tabsB g tf (frY g n))
theorem saysY {w : World} {h : Heap} (e : obsY n fa fn ts tf ex h.get? = He.valX fn ts w) : He.SaysX fa fn ts tf ex w h (frY h.get? n) := by
  obtain ⟨q1, q2⟩ := Prod.mk.inj e
  rw [Bool.and_eq_true] at q2
  have q3 := List.all_eq_true.mp q2.2
  have tab : ∀ p ∈ tf, PySem.W.codeHdIn (frY h.get? n) (He.cT (frY h.get? n) p).1 (He.cT (frY h.get? n) p).2 = true ∧ ∃ o, h.get? (He.cT (frY h.get? n) p).2 = some o ∧ He.emptyTab o = true := fun p hp => by
    have q4 := q3 p hp
    rw [Bool.and_eq_true] at q4
    refine ⟨q4.1, ?_⟩
    have q5 := q4.2
    split at q5
    · rename_i o ho
      exact ⟨o, ho, q5⟩
    · cases q5
  refine ⟨q1, q2.1, fun p hp => (tab p hp).1, fun p hp => ?_, fun p hp => ?_⟩
  · obtain ⟨_, o, ho, z⟩ := tab p hp
    exact He.frT_none ho z
  · obtain ⟨_, o, ho, z⟩ := tab p hp
    rw [ho, He.emptyTab_eq z]
def hookY (n : Nat) (fa : List He.Fa) (fn : List He.DefD) (ts : List He.Tab) (tf : List He.Defn) (ex : PySem.W.Frag → Bool) : PySem.W.Hook where
  α := He.AlX
  obs := fun s => obsY n fa fn ts tf ex s.heap.get?
  val := He.valX fn ts
  says := fun w h => ∃ K : PySem.W.Frag, K.In h ∧ He.SaysX fa fn ts tf ex w h K
  of := fun w s e => ⟨frY s.heap.get? n, He.frT_in, saysY e⟩
  keeps := fun w h h' ⟨K, inK, c⟩ kp => ⟨K, PySem.W.Frag.In.keeps inK kp, { c with empty := fun p hp => kp _ _ (c.empty p hp) }⟩
theorem obsY_eq {g : Addr → Option Obj} {s : Shared} (h : ∀ a, g a = s.heap.get? a) : obsY n fa fn ts tf ex g = (hookY n fa fn ts tf ex).obs s := by
  obtain rfl : g = s.heap.get? := funext h
  rfl
end
end PF

set_option Elab.async false
set_option linter.all false
set_option maxRecDepth 100000
set_option maxHeartbeats 2000000
namespace PF
open PySem PySem.Spec PyProof.Rows L2
/-! ### x = {k: v for ..} -/
section
variable {X : Cx} {ca : Ca}
set_option maxHeartbeats 8000000 in
theorem dn_core {kx vx tg iter : Expr} {ifs : List Expr} {scope : Scope} {own : List (Str × Nat)} {pos : Pos} {wi : L2.TI} {gt : TG} {tt : TT} {tk tv : TE} {pins : List (Addr × Obj)} {s : Shared} {σ : L2.St} {H : Hp} {Q : VK} {use : Option (Value → Sem Unit)} {Qf : Value → Shared → Prop} (I : Inv X pins σ H s) (hu : X.A.units + 65 < cLine) (hc : X.calm = true) (hN : X.N.Nodup) (hi : PI X tg iter wi) (ok : BlkOk X.N X.env.scope scope own)
    (hg : ∀ (s : Shared) (H : Hp) (C : Addr) (cl : List (Str × Addr)) (fp : List Addr), PG (X.blk s H scope (compEnvC scope cl C X.env) fp) tg gt)
    (ht : ∀ (s : Shared) (H : Hp) (C : Addr) (cl : List (Str × Addr)) (fp : List Addr), PTs (X.blk s H scope (compEnvC scope cl C X.env) fp) ifs tt)
    (hk : ∀ (s : Shared) (H : Hp) (C : Addr) (cl : List (Str × Addr)) (fp : List Addr), PE (X.blk s H scope (compEnvC scope cl C X.env) fp) kx tk)
    (he : ∀ (s : Shared) (H : Hp) (C : Addr) (cl : List (Str × Addr)) (fp : List Addr), PE (X.blk s H scope (compEnvC scope cl C X.env) fp) vx tv)
    (hs : ∀ x, foldedSetIterable iter X.env x = pure x) (h : tDn (gv X ca) wi gt tt tk tv (own.map (·.2)) σ H Q)
    (hRR : ∀ D C s' m H', Inv X pins σ H' s' → Q (.ref D) H' → s'.heap.Ns C m → FpOk X pins H' C → compPost (model X.prog X.w) X.A X.xe use Qf (.ref D) C (.ok .next) s') :
    wpAny (model X.prog X.w) X.A (comprehension (.DictComp kx vx [⟨tg, iter, ifs, 0⟩] scope pos) scope X.env (firstIterPos [⟨tg, iter, ifs, 0⟩] pos) newDict (firstAsync [⟨tg, iter, ifs, 0⟩]) (firstIter [⟨tg, iter, ifs, 0⟩] X.env) use) Qf X.xe s := by
  have hfree : ∀ y ∈ scope.names, y.2 = .free → ∃ c, X.env.cells.lookup y.1 = some c := fun y hy e => by
    rcases ok.free y hy e with k | k
    · exact I.ok.has _ (.inl k)
    · exact I.ok.has _ (.inr k)
  refine wpAny_comprehension_free (use := use) rfl hs (closure_ok hfree) ok.kind (fun y hy e => by rw [ok.uniq y hy, e]) (thn (hi.run pins s σ H _ I h) fun xv sA hx => thn hx fun itv sB hB => ?_)
  obtain ⟨it, fp, tn, J, HB, e, IB, TT', stB, fB, q⟩ := hB
  subst e
  refine wpAny_newObj_type (newEnv_comp ?_)
  generalize hD : sB.heap.objs.size = D
  have hDn : HB D = none := IB.hok.fresh (Nat.le_of_eq hD)
  obtain ⟨Wv, ⟨m0, w0⟩, turn⟩ := q D hDn
  generalize hsC : ({ sB with heap := sB.heap.push { cls := .type "dict", data := .dict #[] } } : Shared) = sC
  have IC : Inv X pins σ (upd HB D (dTN (gv X ca) D [])) sC := by
    rw [← hsC]
    refine IB.laid (t' := sB.toks) (fun b o e => Heap.get?_push_of_some _ e) (Nat.le_of_eq hD) ?_
    rw [← hD]
    exact dN_empty sB.heap IB.big
  have hC : sC.heap = sB.heap.push { cls := .type "dict", data := .dict #[] } := by rw [← hsC]
  have sz : ∀ b ∈ fp, b < sB.heap.objs.size := fun b hb => by
    obtain ⟨o, e, _⟩ := TT'.obj _ _ stB b hb
    exact Heap.lt_size e
  have fC : ∀ b ∈ fp, FpOk X pins (upd HB D (dTN (gv X ca) D [])) b ∧ b < sC.heap.objs.size := fun b hb => by
    have hlt := sz b hb
    refine ⟨⟨?_, (fB b hb).2⟩, by rw [hC, Heap.size_push]; exact Nat.lt_succ_of_lt hlt⟩
    rw [upd_ne (by rw [← hD]; exact Nat.ne_of_lt hlt)]
    exact (fB b hb).1
  have stC : tn 0 sC.heap := TT'.keep _ _ _ stB fun b _ o e => by rw [hC]; exact Heap.get?_push_of_some _ e
  have I4 := block_start IC ok hN fC
  generalize hH3 : upd HB D (dTN (gv X ca) D []) = H3 at IC I4 w0 fC
  generalize hcl : cellsFrom (sC.heap.objs.size + 1) scope.names (cloFrom X.env.cells scope.names []) = cl at I4
  have pg := hg sC H3 sC.heap.objs.size cl fp
  have pt := ht sC H3 sC.heap.objs.size cl fp
  have pk := hk sC H3 sC.heap.objs.size cl fp
  have pe := he sC H3 sC.heap.objs.size cl fp
  have nfp : ∀ b ∈ fp, H3 b = none := fun b hb => (fC b hb).1.1
  show codeAny _ _ (.compStart (.DictComp kx vx [⟨tg, iter, ifs, 0⟩] scope pos) 0 (.ref it) (.ref D) (compEnvC scope cl sC.heap.objs.size X.env)) (compPost (model X.prog X.w) X.A X.xe use Qf (.ref D) sC.heap.objs.size) { sC with heap := pushCells (sC.heap.push { cls := .type "dict", data := .dict #[] }) scope.names }
  generalize hce : compEnvC scope cl sC.heap.objs.size X.env = ce at I4 pg pt pk pe ⊢
  have cL : ce.locals = sC.heap.objs.size := by subst hce; rfl
  generalize hs4 : ({ sC with heap := pushCells (sC.heap.push { cls := .type "dict", data := .dict #[] }) scope.names } : Shared) = s4 at I4 ⊢
  have st4 : tn 0 s4.heap := TT'.keep _ _ _ stC fun b _ o e => by rw [← hs4]; exact pushCells_keeps _ _ _ _ (Heap.get?_push_of_some _ e)
  have stat : ∀ {σ' : L2.St} {H' : Hp} {s' : Shared}, Inv (X.blk sC H3 scope ce fp) [] σ' H' s' → (∀ b ∈ fp, H' b = none) → ∀ b ∈ fp, FpOk (X.blk sC H3 scope ce fp) [] H' b := fun {σ' H' s'} I' hn b hb =>
    ⟨hn b hb, (I'.ok.exf b hb).1, I'.ok.exfs b hb, .inl hb, fun x c e => (I'.ok.exf b hb).2 x c e, fun p hp => absurd (show p ∈ ([] : List (Addr × Obj)) ++ [] from hp) (by simp)⟩
  have loop : codeAny (model X.prog X.w) X.A (.compLoop (.DictComp kx vx [⟨tg, iter, ifs, 0⟩] scope pos) 0 (.ref it) (.ref D) ce) (compPost (model X.prog X.w) X.A X.xe use Qf (.ref D) sC.heap.objs.size) s4 := by
    refine compLoop_anyD (fun n s' => ∃ i H', Inv (X.blk sC H3 scope ce fp) [] (L2.wipe σ (own.map (·.2))) H' s' ∧ tn i s'.heap ∧ (∀ b ∈ fp, H' b = none) ∧ Wv i n H') ?_ m0 ⟨0, H3, I4, st4, nfp, w0⟩
    rintro n s5 ⟨i, H5, I5, st5, n5, w5⟩
    rcases turn i n H5 w5 with ⟨stop, qq⟩ | ⟨go, N, hNx, step⟩
    · refine thnF (TT'.done (X.blk sC H3 scope ce fp) rfl rfl rfl hc i [] s5 _ H5 (fun _ _ => False) I5 (stat I5 n5) st5 stop) fun r s6 ⟨hr, I6⟩ => ?_
      subst hr
      have I7 : Inv X pins σ H5 s6 := IC.call' (ch := fp) I6.os I6.base I6.hok I6.bare fun b hb => ⟨(fC b hb).1.2.2.2.1, (fC b hb).1.2.1, (fC b hb).1.2.2.2.2.1, (fC b hb).1.2.2.2.2.2⟩
      have nC : H5 sC.heap.objs.size = none := by
        have z : H5 ce.locals = none := I6.free
        rw [cL] at z
        exact z
      obtain ⟨m, hn, _⟩ := I6.loc
      have hn : s6.heap.Ns ce.locals m := hn
      rw [cL] at hn
      exact hRR D _ s6 m H5 I7 qq hn (IC.fpOk (H' := H5) (Nat.le_refl _) nC)
    · refine thnF (TT'.item (X.blk sC H3 scope ce fp) rfl rfl rfl hc i [] s5 _ H5 (fun _ _ => False) I5 (stat I5 n5) st5 go) fun r s6 ⟨u, hr, h6⟩ => ?_
      subst hr
      refine thnF h6 fun _ s7 ⟨x, H7, I7, r7, y7, st7, n7⟩ => ?_
      have I7' := I7.pinned (stat I7 n7) (TT'.obj _ _ st7)
      refine thnF (pg.run _ s7 _ H7 x u _ I7' r7 (step x H7 y7)) fun _ s8 ⟨σ8, H8, I8, hw8, q8⟩ => ?_
      refine thnF (pt.run _ s8 σ8 H8 _ I8 q8) fun b s9 ⟨H9, I9, q9⟩ => ?_
      have fin : ∀ {s' : Shared} {H' : Hp}, Inv (X.blk sC H3 scope ce fp) ([] ++ pinsAt fp s7.heap) σ8 H' s' → N H' → ∃ m, m < n ∧ ∃ i H', Inv (X.blk sC H3 scope ce fp) [] (L2.wipe σ (own.map (·.2))) H' s' ∧ tn i s'.heap ∧ (∀ b ∈ fp, H' b = none) ∧ Wv i m H' := fun {s' H'} I' nx => by
        obtain ⟨m', hm, w'⟩ := hNx H' nx
        have pin' : ∀ b ∈ fp, ∀ o, s7.heap.get? b = some o → s'.heap.get? b = some o ∧ H' b = none := fun b hb o e =>
          let z := I'.pin (b, o) (List.mem_append_right _ (List.mem_append_right _ (mem_pinsAt hb e)))
          ⟨z.1, z.2.1⟩
        have hl : (L2.wipe σ (own.map (·.2))).length = σ8.length := by rw [← hw8, wipe_length]
        refine ⟨m', hm, i + 1, H', (I'.unpinned (pins := [])).weak hl (fun j v e => ?_), TT'.keep _ _ _ st7 fun b hb o e => (pin' b hb o e).1, fun b hb => ?_, w'⟩
        · rw [← hw8] at e
          exact (wipe_some e).1
        · obtain ⟨o, e, _⟩ := TT'.obj _ _ st7 b hb
          exact (pin' b hb o e).2
      cases b with
      | false =>
        simp only [Bool.false_eq_true, if_false] at q9 ⊢
        exact fin I9 q9
      | true =>
        simp only [if_true] at q9 ⊢
        refine thnF (pk.run _ s9 σ8 H9 _ I9 q9) fun z s10 ⟨yk, H10, I10, r10, q10⟩ => ?_
        refine thnF (pe.run _ s10 σ8 H10 _ I10 q10) fun z2 s11 ⟨yv, H11, I11, r11, q11⟩ => ?_
        exact dN_store (X := X.blk sC H3 scope ce fp) (ca := ca) hu I11 r10 r11 q11 fun s12 H12 I12 nx => fin I12 nx
  exact codeAny_compStart_dict loop (TT'.self X.A 0 _ _ _ st4 loop)
end
section
variable {W : WX} {X : Cx} {ca : Ca} {pn : List Nat} {kx vx tg iter : Expr} {ifs : List Expr} {scope : Scope} {own : List (Str × Nat)} {pos spos py : Pos} {h : O → M Unit} {ft : M Bool} {fk fv : M O} {fi : M (List D)} {i : Nat} {y : Str}
theorem s_setDc (hu : X.A.units + 65 < cLine) (hc : X.calm = true) (hN : X.N.Nodup) (hy : X.N[i]? = some y) (hyl : X.env.scope.names.lookup y = some .local) (hp : i ∉ pn) (hsw : swapsWith (.DictComp kx vx [⟨tg, iter, ifs, 0⟩] scope pos) (some (.Name y py)) spos.line X.env = pure true)
    (hi : PI X tg iter (Ti (gv X ca) W fi)) (ok : BlkOk X.N X.env.scope scope own)
    (hg : ∀ (s : Shared) (H : Hp) (C : Addr) (cl : List (Str × Addr)) (fp : List Addr), PG (X.blk s H scope (compEnvC scope cl C X.env) fp) tg (Tg (gv X ca) W0 (others X.N.length (own.map (·.2))) h))
    (ht : ∀ (s : Shared) (H : Hp) (C : Addr) (cl : List (Str × Addr)) (fp : List Addr), PTs (X.blk s H scope (compEnvC scope cl C X.env) fp) ifs (Tt (gv X ca) W0 ft))
    (hk : ∀ (s : Shared) (H : Hp) (C : Addr) (cl : List (Str × Addr)) (fp : List Addr), PE (X.blk s H scope (compEnvC scope cl C X.env) fp) kx (T (gv X ca) W0 fk))
    (he : ∀ (s : Shared) (H : Hp) (C : Addr) (cl : List (Str × Addr)) (fp : List Addr), PE (X.blk s H scope (compEnvC scope cl C X.env) fp) vx (T (gv X ca) W0 fv)) (hs : ∀ x, foldedSetIterable iter X.env x = pure x := by intro _; rfl) :
    PS X (.Assign [.Name y py] (.DictComp kx vx [⟨tg, iter, ifs, 0⟩] scope pos) spos) (Ts (gv X ca) W pn (setS i (dcF (own.map (·.2)) fi h ft fk fv))) := by
  refine ⟨fun pins s σ H D I ⟨F, Gx, ρ, st, r⟩ => ?_⟩
  have q : tDn (gv X ca) (Ti (gv X ca) W fi) (Tg (gv X ca) W0 (others X.N.length (own.map (·.2))) h) (Tt (gv X ca) W0 ft) (T (gv X ca) W0 fk) (T (gv X ca) W0 fv) (own.map (·.2)) σ H (fun x H1 => D.nx (σ.set i (some x)) H1) :=
    dc_ask (W := W) I.len.symm ⟨F, Gx, ρ, st, r.expr.mono fun o H' F' ρ' le r1 v st' => Ts_nx (Ts_put hp st' r1)⟩
  rw [exec_Assign_Name_used _ _ _ _ hsw]
  refine wpAny_bind (wpAny_standAt (wpAny_bind ?_))
  show wpAny _ X.A (do let _ ← comprehension (.DictComp kx vx [⟨tg, iter, ifs, 0⟩] scope pos) scope X.env (firstIterPos [⟨tg, iter, ifs, 0⟩] pos) newDict (firstAsync [⟨tg, iter, ifs, 0⟩]) (firstIter [⟨tg, iter, ifs, 0⟩] X.env) (some (assign (.Name y py) X.env))) _ _ s
  refine wpAny_bind (thn (dn_core (Qf := fun _ s' => SP X pins D .next s') I hu hc hN hi ok hg ht hk he hs q fun L C s' m H' I' qq hn fp => ?_) fun _ s' hq => wpAny_pure (wpAny_pure hq))
  show wpAny _ _ (assign (.Name y py) X.env (.ref L)) _ _ _
  refine wpAny_assign_Name (store_ok2 (v := V.ref L) I' hN hy (.inl hyl) rfl (fun s2 I2 hh => ?_) (.inr hyl))
  obtain ⟨a, sb, ha⟩ := hh
  obtain ⟨f0, f1, f2, f3, f4, f5⟩ := fp
  have ne : C ≠ a := ha.elim (fun z => by rw [z]; exact f1) fun z e => f4 y a z e.symm
  exact ⟨m, hn.sameBut sb ne, fun h3 sb3 => ⟨_, H', I2.turned (t' := s2.toks) (fun b o hb e => (sb3.2 b hb).trans e) f0 f1 f3 f4 f5, qq⟩⟩
end
end PF

set_option Elab.async false
set_option linter.all false
set_option maxRecDepth 100000
set_option maxHeartbeats 2000000
namespace PF
open PySem PySem.Spec PyProof.Rows L2 LamX NdefX

/-! ### a lambda without parameters, handed to a def that calls it in a try -/
section
variable {X : Cx} {pins : List (Addr × Obj)} {σ : L2.St} {H : Hp} {s : Shared}
theorem lam_new {c P : Addr} {params : Arguments} {body : Expr} {scope : Scope} {pos : Pos} {E : Value → Shared → Prop} {Q : Value → Shared → Prop} (I : Inv X pins σ H s) (TB : TabB X.base X.mg c P) (hcode : X.env.code = .ref c) (hdef : defaultsOf params X.env = ([], []))
    (hfr : ∀ y ∈ scope.names, y.2 = .free → ∃ c, X.env.cells.lookup y.1 = some c)
    (hT : ∃ ps : Array Value, H P = some (.tbl ps) ∧ TriplesOk ps.toList ∧ ∀ (pos : Pos) (cv : Value), codeAmong pos ps.toList = some cv → ∃ c, cv = .ref c ∧ H c = some (CodeO c (X.env.qual ++ "<lambda>")))
    (h : ∀ (f c' : Addr) (pm ctv : Value) (H1 : Hp) (s' : Shared), Inv X pins σ H1 s' → TabStep H P c' (X.env.qual ++ "<lambda>") H1 →
      s'.heap.get? f = some (PySem.W.kla_obj "<lambda>" (X.env.qual ++ "<lambda>") params body scope (cloFrom X.env.cells scope.names []) pm c' ctv) → H1 f = none → f ∉ frs X.stack → H1 c' = some (CodeO c' (X.env.qual ++ "<lambda>")) → Q (.ref f) s') :
    wpAny (model X.prog X.w) X.A (eval (.Lambda params body scope pos) X.env) Q E s := by
  obtain ⟨ps, hP, ht, ha⟩ := hT
  refine PySem.W.kla_eval hdef ?_
  have hB : s.heap.BuiltinsAt X.mg P := TB.bm.keeps I.bk
  have gP : s.heap.get? P = some { cls := .none, data := .fields ps } := I.hok P _ hP
  have hG : s.heap.Ns mainGlobals X.mg := I.mod.glob.keeps I.bk
  have hC : PySem.W.CodeHd s.heap c P := TB.code.keeps I.bk
  have nofr : ∀ f, s.heap.objs.size ≤ f → f ∉ frs X.stack := fun f hf z => by
    rcases List.mem_cons.mp (I.stkSub _ z) with e | e
    · have h1 := I.lt
      rw [← e] at h1
      exact Nat.lt_irrefl _ (Nat.lt_of_lt_of_le h1 hf)
    · exact I.nofs hf e
  cases hc : codeAmong pos ps.toList with
  | none =>
    refine PySem.W.kla_makeFunction (mg := X.mg) (closure_ok hfr) I.ok.glob hG hcode hC gP ht hc TB.gP hB fun c' ctv h' tk hx hge hlt hrec htb => ?_
    obtain ⟨c2, oc, vs, t, e2, hoc, hd, hv⟩ := hrec
    cases e2
    have nC : H c' = none := I.hok.fresh hge
    have I1 := inv_table (t' := tk) (more := #[rawInt pos.line, rawInt pos.col, .ref c']) (h' := h') I hP (fun b o nb z => hx b o nb z) htb hge ⟨oc, vs, t, hoc, hd, hv⟩
    have I2 := I1.kept (h' := h'.push (PySem.W.kla_obj "<lambda>" (X.env.qual ++ "<lambda>") params body scope (cloFrom X.env.cells scope.names []) ((X.mg "__name__").getD .none) c' ctv)) (t' := tk) fun b o z => Heap.get?_push_of_some _ z
    have eL : (ps ++ #[rawInt pos.line, rawInt pos.col, .ref c']).toList = ps.toList ++ [rawInt pos.line, rawInt pos.col, .ref c'] := by simp
    have hsz : s.heap.objs.size ≤ h'.objs.size := Nat.le_trans hge (Nat.le_of_lt hlt)
    refine h _ c' _ ctv _ _ I2 ⟨ps, hP, .inr ⟨_, nC, rfl, by rw [eL]; exact PySem.TriplesOk_snoc _ _ _ _ ht, fun p' cv hcv => ?_⟩⟩ (Heap.get?_push_size _ rfl) (I1.hok.fresh (Nat.le_refl _)) (nofr _ hsz) upd_same
    rw [eL] at hcv
    exact (among_app _ ht hcv).symm
  | some cv =>
    obtain ⟨c', e, hco⟩ := ha pos cv hc
    subst e
    refine PySem.W.kla_makeFunctionHit (mg := X.mg) (closure_ok hfr) I.ok.glob hG hcode hC gP ht hc hB fun ctv h' tk hx hsz => ?_
    have I1 : Inv X pins σ H { s with heap := h'.push (PySem.W.kla_obj "<lambda>" (X.env.qual ++ "<lambda>") params body scope (cloFrom X.env.cells scope.names []) ((X.mg "__name__").getD .none) c' ctv), toks := tk } := I.kept fun b o e => Heap.get?_push_of_some _ (hx b o e)
    exact h _ c' _ ctv H _ I1 ⟨ps, hP, .inl ⟨rfl, pos, hc⟩⟩ (Heap.get?_push_size _ rfl) (I.hok.fresh hsz) (nofr _ hsz) hco
end
section
variable {g : Gv} {H F Gx : Hp} {σ : L2.St} {ρ : Sls} {L : List (V × O)}
/-- the code object alone -/
theorem StG.code (st : StG g H F Gx σ ρ L) {p : Addr × Str} (hp : p ∈ g.ca.tb) (hu : ∀ p' ∈ g.ca.tb, p'.1 = p.1 → p' = p) {c' : Addr} {H1 : Hp} (hs : TabStep H p.1 c' p.2 H1) :
    ∃ F1, Le F F1 ∧ StG g H1 F1 Gx σ ρ L := by
  obtain ⟨S, hT, _⟩ := st.gd.ex
  obtain ⟨t1, t2, t3, ps0, t4, t5, t6⟩ := hT p hp
  obtain ⟨ps1, e0, hs⟩ := hs
  rw [t4] at e0; cases e0
  rcases hs with ⟨rfl, pos, hc⟩ | ⟨ps, nC, rfl, ht, ha⟩
  · exact ⟨F, Le.refl _, st⟩
  · have ne : p.1 ≠ c' := fun z => by rw [z, nC] at t4; cases t4
    obtain ⟨le1, g1⟩ := st.gd.newF (u := CodeO c' p.2) nC
    have g2 := Good.tab g1 hp ht fun p' hp' e pos cv hc => by
      rw [hu p' hp' e]
      rcases ha pos cv hc with rfl | hc2
      · exact ⟨c', rfl, upd_same⟩
      · obtain ⟨c, e1, e2⟩ := t6 pos cv hc2
        exact ⟨c, e1, le1 _ _ e2⟩
    rw [upd_comm (Ne.symm ne)] at g2
    exact ⟨_, le1, st.wf, st.len, g2⟩
end
end PF

set_option Elab.async false
set_option linter.all false
set_option maxRecDepth 100000
set_option maxHeartbeats 2000000
namespace PF
open PySem PySem.Spec PyProof.Rows L2 LamX NdefX
/-- what the suite answers to an exception: n slots, the exception in slot i -/
def wfRun (n i : Nat) (hs : M Out) (e : Exn) : Option D := match hs ((List.replicate n none).set i (some (.val (.exn e.cls e.ns e.vs)))) with
  | some (.ok (.rt (.val d)), _) => if xf d = true then some d else none
  | _ => none
/-- a word of what a lambda does: None, or what the suite answers -/
def wordF (n i : Nat) (cov : Nat → Option Bool) (hs : M Out) (m : M O) : M O := fun ρ => match m ρ with
  | some (.ok _, ρ') => some (.ok (.val .non), ρ')
  | some (.ex e, ρ') => match cov e.cls with
    | some true => (match wfRun n i hs e with
      | some d => some (.ok (.val d), ρ')
      | none => none)
    | _ => none
  | none => none
/-- the exceptions that such a def answers, with what is wanted of the answer -/
def wEx (g : Gv) (n i : Nat) (cov : Nat → Option Bool) (hs : M Out) (Q : VK) : XK := fun cls d H' => ∃ (e : Exn) (F Gx : Hp) (r : D), cls = .ref (g.ca e.cls) ∧ XAt g F e d ∧ Good g H' F Gx [] ∧ cov e.cls = some true ∧ wfRun n i hs e = some r ∧
  ∀ v H'' F'', Le F F'' → Good g H'' F'' Gx [(v, .val r)] → Q v H''
/-- a def that calls the lambda it got in a try -/
structure WordK (P : Program) (w : World) (K : PySem.W.Frag) (mg : Str → Option Value) (base : Heap) (ca : Ca) (k : Nat) (x : Str) (n i : Nat) (cov : Nat → Option Bool) (hs : M Out) : Prop where
  ex : ∃ (g : Addr) (fd : FuncData) (Ng : List Str) (qg a : Str) (sg : Scope) (cdg : Value), mg x = some (.ref g) ∧ PySem.W.keepIn K (.ref g) = true ∧ Binds K fd [a] [] ∧ Ng[0]? = some a ∧ Vis sg a ∧ (a == ("__debug__" : Str)) = false ∧ (a == ("__classdict__" : Str)) = false ∧
    ∀ (A : Around) (outer : List Env) (s : Shared) (H : Hp) (args : Args) (fl c' : Addr) (q : Str) (tl : XK → Hp → VK → Prop) (Q : VK), Room (k + 1) A → Env0 P w K mg base A outer s H → BindsTo s fd args [(a, .ref fl)] →
      (∀ (W : WX) (pn : List (Addr × Obj)) (xe : Value → Shared → Prop) (E : XK) (p1 p2 : Pos), Takes ((cxOf (L2.CX P w) P w K mg base Ng qg sg g cdg A outer s H (fun _ _ _ => False)).tr pn xe) W → (∀ cls d σ' H', E cls d H' → W cls d σ' H') →
        PE ((cxOf (L2.CX P w) P w K mg base Ng qg sg g cdg A outer s H (fun _ _ _ => False)).tr pn xe) (.Call (.Name a p1) [] [] p2) (fun σZ HZ Q => σZ[0]? = some (some (.ref fl)) ∧ HZ c' = some (CodeO c' q) ∧ tl E HZ Q)) →
      H c' = some (CodeO c' q) → tl (wEx ⟨P, w, K, ca⟩ n i cov hs Q) H (fun _ H' => Q .non H') →
      codeAny (model P w) A (.call (.ref g) args) (CR (L2.CX P w) outer P w H s Q (fun _ _ _ => False)) s
theorem takes_len {X : Cx} {W : WX} (tk : Takes X W) : Takes X (fun c d σ H => σ.length = X.N.length → W c d σ H) := fun u s' ⟨a, B, sI, pins, σ, H, cls, d, e, I, nb, up, sky, na, os, ag, w⟩ =>
  tk u s' ⟨a, B, sI, pins, σ, H, cls, d, e, I, nb, up, sky, na, os, ag, w I.len⟩
section
variable {P : Program} {w : World} {K : PySem.W.Frag} {mg : Str → Option Value} {base : Heap} {ca : Ca}
theorem slL_rep (n : Nat) : ∀ (σ : L2.St), slL σ (List.replicate n none) = []
  := by
  induction n with
  | zero => intro σ; cases σ with | nil => rfl | cons s σ => cases s <;> rfl
  | succ n ih =>
    intro σ
    cases σ with
    | nil => rfl
    | cons s σ => rw [List.replicate_succ, slL_none]; exact ih σ
/-- THE RULE for such a def -/
theorem d_word {x qual a e T : Str} {params : Arguments} {scope : Scope} {f : Addr} {fd : FuncData} {N : List Str} {i : Nat} {b₀ : Stmt} {suite : List Stmt} {p1 p2 p3 p4 p5 p6 p7 p8 : Pos} {j : Nat} {c : Value} {cov : Nat → Option Bool} {hs : M Out} {body : List Stmt}
    (h0 : ca.xa = none) (Fu : FunD K x qual params body scope [] [] f fd) (gl : mg x = some (.ref f)) (bd : Binds K fd [a] []) (S : FnScope N [a] scope)
    (hb : body = [.Try [.Expr (.Call (.Name a p1) [] [] p2) p3] [.ExceptHandler (some (.Name T p4)) (some e) (b₀ :: suite) p5] [] [] p6, .Return (some (.Constant .none j p7)) p8])
    (hN0 : N[0]? = some a) (hva : Vis scope a) (hd : (a == ("__debug__" : Str)) = false) (hcd : (a == ("__classdict__" : Str)) = false) (hN : N.Nodup) (hi : N[i]? = some e) (hln : ∀ (cdv : Value) (s : Shared), (envOfC qual scope s.heap.objs.size f cdv).kindOf e = some .local)
    (hc : ∀ (cdv : Value) (A : Around) (outer : List Env) (s : Shared) (H : Hp), Names (cxOf (L2.CX P w) P w K mg base N qual scope f cdv A outer s H (fun _ _ _ => False)) T c)
    (hcov : ∀ k b, cov k = some b → PySem.W.exmOne K (.ref (ca k)) c = some b)
    (hsu : ∀ (cdv : Value) (A : Around) (outer : List Env) (s : Shared) (H : Hp) (a : Addr) (oe : Obj) (d : Option Addr) (k : Nat) (pn' : List (Addr × Obj)), Room 0 (A.deeper (envOfC qual scope s.heap.objs.size f cdv)) → cov k = some true → Zc (.ref (ca k)) d oe → (∃ vs, oe.data = .fields vs) →
      PSs ((cxOf (L2.CX P w) P w K mg base N qual scope f cdv A outer s H (fun _ _ _ => False)).suite a ((a, oe) :: pn')) (b₀ :: suite) (Ts ⟨P, w, K, ca.with a d k⟩ W0 [] hs))
    (hsw : ∀ (X : Cx), swapsWith (.Call (.Name a p1) [] [] p2) none p3.line X.env = pure false) :
    WordK P w K mg base ca k x N.length i cov hs := by
  subst hb
  obtain ⟨at_, tb, xa⟩ := ca
  have h0 : xa = none := h0
  subst h0
  have kp := Fu.kp
  obtain ⟨oc, od, dV, kV, doc, pm, an, cdv, ct, osl, rfl, lk, hcd2, _, _⟩ := Fu.ex
  refine ⟨f, _, N, qual, a, scope, cdv, gl, kp, bd, hN0, hva, hd, hcd, fun A outer s H args fl c' q tl Q hr e0 hbnd act hco htl => ?_⟩
  refine run_ofS (N := N) (ps := [a]) (us := [.ref fl]) (vs := [.ref fl]) lk hcd2 S (hr.mono (Nat.le_refl _)) e0 hbnd (.cons rfl .nil) rfl fun hr' => ?_
  have hi' : i < N.length := (List.getElem?_eq_some_iff.mp hi).1
  have h0N : 0 < N.length := (List.getElem?_eq_some_iff.mp hN0).1
  have hst0 : (L2.start N [V.ref fl])[0]? = some (some (V.ref fl)) := by simp [L2.start]
  have hstl : (L2.start N [V.ref fl]).length = N.length := by simp [L2.start]; omega
  refine ⟨_, pss_cons (ps_try_as (X := cxOf (L2.CX P w) P w K mg base N qual scope f cdv A outer s H (fun _ _ _ => False)) (i := i) (c := c)
      (tb := fun W D σ H => ∃ Ech : XK, (∀ cls d σ' H', Ech cls d H' → σ'.length = N.length → W cls d σ' H') ∧ σ[0]? = some (some (.ref fl)) ∧ H c' = some (CodeO c' q) ∧ tl Ech H (fun _ H' => D.nx σ H'))
      (ts := fun a cls d D σ H => ∃ k, cov k = some true ∧ cls = .ref (at_ k) ∧ Ts ⟨P, w, K, (Ca.with ⟨at_, tb, none⟩ a d k)⟩ W0 [] hs D σ H)
      (Wout := fun _ _ _ _ => False) rfl rfl hN hi (hln cdv s) (hc cdv A outer s H) L2.takes0 (fun W pn xe tk _ => ?_) (fun a oe cls d pn' hz hd => ⟨fun pins s1 σ1 H1 D I ⟨k, hk, hcl, h⟩ => (hsu cdv A outer s H a oe d k pn' (hr'.mono (Nat.zero_le _)) hk (by rw [hcl] at hz; exact hz) hd).run pins s1 σ1 H1 D I h⟩))
      (pss_one (ps_ret pe_non)), ?_⟩
  · refine ⟨fun pins s1 σ1 H1 D I1 h' => ?_⟩
    obtain ⟨Ech, hW, h1, h2, h3⟩ := h'
    have hp := act (fun c d σ H => σ.length = N.length → W c d σ H) pn xe Ech p1 p2 (takes_len tk) hW
    exact (pss_one (ps_expr (pos := p3) hp (hsw _))).run pins s1 σ1 H1 D I1 ⟨h1, h2, h3⟩
  · refine ⟨wEx ⟨P, w, K, ⟨at_, tb, none⟩⟩ N.length i cov hs Q, fun cls d σ' H' hx hlen => ?_, hst0, hco, htl⟩
    obtain ⟨ex, F, Gx, r, hcl, hx1, hg, hcv, hwf, hQ⟩ := hx
    subst hcl
    refine ⟨true, hcov _ _ hcv, fun _ a ha => ⟨ex.cls, hcv, rfl, F, Gx, (List.replicate N.length none).set i (some (.val (.exn ex.cls ex.ns ex.vs))), ?_, ?_⟩, fun z => nomatch z⟩
    · have st1 : StG ⟨P, w, K, ⟨at_, tb, none⟩⟩ H' F Gx σ' (List.replicate N.length none) [] := by
        refine ⟨fun j o e => ?_, by simp [hlen], by rw [slL_rep]; exact hg⟩
        rw [List.getElem?_replicate] at e
        split at e <;> cases e
      have st2 : StG ⟨P, w, K, Ca.with ⟨at_, tb, none⟩ a d ex.cls⟩ H' F Gx σ' (List.replicate N.length none) [] := conv_S (free_S st1) st1
      exact (st2.ofVal (v := .ref a) (d := .exn ex.cls ex.ns ex.vs) hx1.rep).store (by simp [hi'])
    · unfold wfRun at hwf
      unfold Rs
      cases hh : hs ((List.replicate N.length none).set i (some (.val (.exn ex.cls ex.ns ex.vs)))) with
      | none => rw [hh] at hwf; cases hwf
      | some q =>
        obtain ⟨z, ρ2⟩ := q
        rw [hh] at hwf
        cases z with
        | ex e2 => cases hwf
        | ok out =>
          cases out with
          | nx => cases hwf
          | bk => cases hwf
          | ct => cases hwf
          | rt o =>
            cases o with
            | lst os => cases hwf
            | dct b ks os => cases hwf
            | ins c2 ns os => cases hwf
            | val d1 =>
              by_cases hxf : xf d1 = true
              · simp only [if_pos hxf] at hwf
                cases hwf
                intro H2 F2 σ2 le2 p2 v st4
                have g1 : Good ⟨P, w, K, Ca.with ⟨at_, tb, none⟩ a d ex.cls⟩ H2 F2 Gx [(v, .val r)] := Good.dropL (A := slL σ2 ρ2) (st4.gd.perm List.perm_append_comm)
                exact hQ v H2 F2 le2 (conv_G (fun p hp => by rw [List.mem_singleton.mp hp]; exact hxf) g1)
              · simp only [if_neg hxf] at hwf
                cases hwf
end
section
variable {W : WX} {X : Cx} {ca : Ca} {k j n i : Nat} {x : Str} {cov : Nat → Option Bool} {hs : M Out} {m : M O} {c P : Addr} {params : Arguments} {body : Expr} {scope : Scope} {p lpos pos : Pos}
/-- x(lambda: body) -/
theorem e_word (Wd : WordK X.prog X.w X.K X.mg X.base ca k x n i cov hs) (hr : Room (j + 2) X.A) (hk : k ≤ j + 1) (TB : TabB X.base X.mg c P) (hcode : X.env.code = .ref c) (hp : (P, X.env.qual ++ "<lambda>") ∈ ca.tb) (hu : ∀ p' ∈ ca.tb, p'.1 = P → p' = (P, X.env.qual ++ "<lambda>"))
    (L : LamS X.env.scope scope)
    (hbody : ∀ (A : Around) (outer : List Env) (s : Shared) (H : Hp) (E : XK) (f c' : Addr), Room j (A.deeper (lamEnv X scope s.heap.objs.size f c')) → PE (lamCx X A outer s H E scope f c') body (T (gv X ca) (fun c d _ H => E c d H) m))
    (hdef : defaultsOf params X.env = ([], []) := by rfl)
    (hbind : ∀ (q : Str) (cl : List (Str × Addr)) (pm cv ctv : Value), bindArgs (PySem.W.kla_fn "<lambda>" q params body scope cl pm cv ctv) ⟨[], []⟩ = pure [] := by intros; rfl)
    (hg : Gl X x := by rfl) (hdb : (x == ("__debug__" : Str)) = false := by decide) : PE X (.Call (.Name x p) [.Lambda params body scope lpos] [] pos) (T (gv X ca) W (wordF n i cov hs m)) := by
  refine ⟨fun pins s σ H Q I h => ?_⟩
  obtain ⟨F, Gx, ρ, st, r⟩ := h
  obtain ⟨g, fd, Ng, qg, a, sg, cdg, hm, hkp, hb, hN0, hva, hd, hcd, run⟩ := Wd.ex
  refine wpAny_Call_Name_kw (ld_glob I hg hm ?_ hdb)
  refine PySem.W.callWith_K (h₀ := X.base) I.ok.mod.kin hkp ?_ (by rfl) (by rfl)
  show wpAny _ _ (spliced ((false, eval (.Lambda params body scope lpos) X.env) :: backTo pos (starEach [] X.env))) _ _ s
  refine Calls.spliced_cons (lam_new I TB hcode hdef (L.has I.ok) (st.tabs hp) fun f c' pm ctv H1 s' I1 ts hf hfn hfr hco => ?_)
  refine Calls.spliced_nil ⟨I1.kIn, ?_⟩
  obtain ⟨F1, le1, st1⟩ := st.code hp hu ts
  have rc := run X.A X.stack s' H1 ⟨[.ref f], []⟩ f c' (X.env.qual ++ "<lambda>") (fun E H' Q' => T (gv X ca) (fun c d _ H => E c d H) m σ H' Q') Q (hr.mono (by omega)) I1.env0 (hb s' [.ref f] I1.kIn rfl)
    (fun W pn xe E p1 p2 tk hW => pe_act (i := 0) I1 L hf hfn hfr (hbind _ _ _ _ _) tk hW (hr.deeper _) (fun A outer s H hr2 => hbody A outer s H E f c' hr2) hN0 hva hd hcd) hco (by
      refine ⟨F1, Gx, ρ, st1, ?_⟩
      unfold Rn wordF at r
      unfold Rn
      cases hm : m ρ with
      | none => simp only [hm] at r
      | some q =>
        obtain ⟨z, ρ'⟩ := q
        simp only [hm] at r
        cases z with
        | ok o => exact fun H' F' le v st2 => r H' F' (le1.trans le) .non (st2.drop1.ofVal repN)
        | ex e =>
          simp only at r
          cases hcv : cov e.cls with
          | none => simp only [hcv] at r
          | some b =>
            cases b with
            | false => simp only [hcv] at r
            | true =>
              simp only [hcv] at r
              cases hw : wfRun n i hs e with
              | none => simp only [hw] at r
              | some d0 =>
                simp only [hw] at r
                intro H' F' d le st2 hx
                obtain ⟨Gx', gA, back⟩ := Good.aside (A := []) (B := slL σ ρ') st2.gd
                refine ⟨e, F', Gx', d0, rfl, hx, gA, hcv, hw, fun v H'' F'' le2 g2 => r H'' F'' ((le1.trans le).trans le2) v ?_⟩
                exact StG.ofVal ⟨st2.wf, st2.len, back H'' F'' [] le2 g2.drop1⟩ (Good.val (B := []) g2))
  refine wpAny_call (codeAny_mono rc fun r s2 hq => ?_)
  cases r with
  | error e =>
    obtain ⟨_, _, _, _, _, _, _, _, _, _, _, _, z⟩ := hq
    exact z.elim
  | ok fl =>
    cases fl with
    | ret u => exact I1.after hq
    | next => exact False.elim hq
    | brk => exact False.elim hq
    | cont => exact False.elim hq
end
end PF

set_option Elab.async false
set_option linter.all false
set_option maxRecDepth 100000
set_option maxHeartbeats 1000000
namespace PF
open PySem PySem.Spec PyProof.Rows L2
/-! ### xs.insert(k, v) -/
def insO (k : Int) (o : O) : O → Option O
  | .lst os => if os.length ≤ lim ∧ 0 ≤ k ∧ k ≤ 2 ^ 62 then some (.lst (os.take k.toNat ++ [o] ++ os.drop k.toNat)) else none
  | _ => none
def insF (i : Nat) (fj fe : M O) : M O := (pk i).bind fun b => match b with
  | .lst _ => fj.bind fun oj => (match oj with
    | .val (.int k) => fe.bind fun o => (upM i (insO k o)).bind fun _ => M.pure (.val .non)
    | _ => M.stuck)
  | _ => M.stuck
theorem RepOs.unapp {g : Gv} {H F : Hp} : ∀ {os ps : List O} {ws : List V} {S : Addr → Prop}, RepOs g H F (os ++ ps) ws S → ∃ vs us S1 S2, ws = vs ++ us ∧ vs.length = os.length ∧ (∀ b, S1 b → S b) ∧ (∀ b, S2 b → S b) ∧ (∀ b, S1 b → S2 b → False) ∧ RepOs g H F os vs S1 ∧ RepOs g H F ps us S2
  | [], ps, ws, S, r => ⟨[], ws, fun _ => False, S, rfl, rfl, fun _ h => h.elim, fun _ h => h, fun _ h _ => h, by rw [RepOs], r⟩
  | o :: os, ps, ws, S, r => by
    rw [List.cons_append, RepOs] at r
    obtain ⟨v, us, S1, S2, rfl, sp, r1, rs⟩ := r
    obtain ⟨vs, us', T1, T2, rfl, hl, t1, t2, td, q1, q2⟩ := RepOs.unapp rs
    refine ⟨v :: vs, us', fun b => S1 b ∨ T1 b, T2, rfl, by simp [hl], fun b h => h.elim (sp.l b) fun h => sp.r b (t1 b h), fun b h => sp.r b (t2 b h), fun b h1 h2 => h1.elim (fun h => sp.d b h (t2 b h2)) fun h => td b h h2, ?_, q2⟩
    rw [RepOs]
    exact ⟨v, vs, S1, T1, rfl, ⟨fun b h => .inl h, fun b h => .inr h, fun b h1 h2 => sp.d b h1 (t1 b h2)⟩, r1, q1⟩
theorem ins_run {g : Gv} {σ : L2.St} {H F Gx : Hp} {ρ : Sls} {i : Nat} {o v : O} {o' : O} {x vv : V} {k : Int} (st : StG g H F Gx σ ρ [(vv, v)]) (hi : ρ[i]? = some (some o)) (hx : σ[i]? = some (some x)) (e : insO k v o = some o') :
    ∃ l xs, x = .ref l ∧ H l = some (.lst xs) ∧ xs.length < sizeLine ∧ 0 ≤ k ∧ k < 2 ^ 63 ∧ StG g (upd H l (.lst (xs.take k.toNat ++ [vv] ++ xs.drop k.toNat))) F Gx σ (ρ.set i (some o')) [] := by
  unfold insO at e
  split at e
  · rename_i os
    split at e
    · rename_i hz
      cases e
      obtain ⟨x', S, hx', rx⟩ := st.peek hi
      rw [hx] at hx'; cases hx'
      rw [RepO] at rx
      obtain ⟨a, vs, rfl, _⟩ := rx
      obtain ⟨S1, SA, r1, rA, d, w⟩ := StG.wr (A := [(vv, v)]) (L := []) st hi hx
      rw [RepO] at r1
      obtain ⟨a', vs, e', sa', hH, rs⟩ := r1
      cases e'
      refine ⟨a, vs, rfl, hH, by rw [rs.length]; exact lim_lt hz.1, hz.2.1, by have := hz.2.2; omega, w _ _ sa' ?_⟩
      have hlen := rs.length
      rw [← List.take_append_drop k.toNat os] at rs
      obtain ⟨us, ws, T1, T2, e3, hl, t1, t2, td, q1, q2⟩ := RepOs.unapp rs
      have hu : us = vs.take k.toNat ∧ ws = vs.drop k.toNat := by
        have h1 : us.length = min k.toNat vs.length := by rw [hl, List.length_take, hlen]
        constructor
        · rw [e3, List.take_append, h1]
          have : us.take k.toNat = us := List.take_of_length_le (by rw [h1]; omega)
          rw [this]
          rcases Nat.le_total k.toNat vs.length with h | h
          · rw [Nat.min_eq_left h]; simp
          · have : ws = [] := by
              have h2 := congrArg List.length e3
              rw [List.length_append, h1, Nat.min_eq_right h] at h2
              exact List.length_eq_zero_iff.mp (by omega)
            rw [this]; simp
        · rw [e3, List.drop_append, h1]
          rcases Nat.le_total k.toNat vs.length with h | h
          · rw [Nat.min_eq_left h, List.drop_of_length_le (by rw [h1]; omega)]; simp
          · have : ws = [] := by
              have h2 := congrArg List.length e3
              rw [List.length_append, h1, Nat.min_eq_right h] at h2
              exact List.length_eq_zero_iff.mp (by omega)
            rw [this, List.drop_of_length_le (by rw [h1]; omega)]; simp
      rw [← hu.1, ← hu.2]
      rw [RepO]
      refine ⟨a, _, rfl, .inl sa', upd_same, RepOs.wrote (RepOs.sup g ?_ (RepOs.apps (RepOs.snoc q1 rA.one fun b h1 h2 => d b (t1 b h1).1 h2) q2 ?_)) sa' d⟩
      · exact fun b h => h.elim (fun h => h.elim (fun h => .inl (t1 b h)) .inr) fun h => .inl (t2 b h)
      · exact fun b h1 h2 => h1.elim (fun h => td b h h2) fun h => d b (t2 b h2).1 h
    · cases e
  · cases e
section
variable {W : WX} {X : Cx} {ca : Ca} {a e ej : Expr} {fe fj : M O} {apos cpos : Pos}
theorem e_insert (i : Nat) (ha : PE X a (tVar i)) (hj : PE X ej (T (gv X ca) W fj)) (he : PE X e (T (gv X ca) W fe))
    (hbase : attributeBase a "insert" X.env (eval a X.env) = eval a X.env := by rfl)
    (hfew : ((backTo cpos (starEach [ej, e] X.env)).all (fun x => !x.1) && (backToKw cpos (keywordEach [] X.env)).all (fun x => x.1.isSome)
      && decide (([ej, e] : List Expr).length + ([] : List Keyword).length + (if ([] : List Keyword).isEmpty then 0 else 1) < 30)) = true := by rfl)
    (hline : (apos.endLine == cpos.line) = true := by rfl) (hs : starEach [ej, e] X.env = (false, eval ej X.env) :: starEach [e] X.env := by rfl) (hs2 : starEach [e] X.env = (false, eval e X.env) :: starEach [] X.env := by rfl)
    (hplain : (backTo cpos (starEach [e] X.env)).any (·.1) = false := by rfl) :
    PE X (.Call (.Attribute a "insert" apos) [ej, e] [] cpos) (T (gv X ca) W (insF i fj fe)) :=
  PE.imp (pe_bm PySem.F.plainAttrs_list PySem.F.slot_list_insert PySem.F.type_list_insert mt_insert ha (pa_cons hj (pa_cons he pa_nil hs2) hs) hbase hfew hline hs hplain) fun σ H Q ⟨F, Gx, ρ, st, r⟩ => by
    obtain ⟨o0, h0, r⟩ := r.pk
    obtain ⟨x, S, hx, rx⟩ := st.peek h0
    split at r
    · rename_i os
      rw [RepO] at rx
      obtain ⟨l, vs, rfl, sa, hH, rs⟩ := rx
      refine ⟨_, hx, .inl ⟨rfl, vs, SqL.of hH⟩, F, Gx, ρ, st, r.bind.mono fun vj H1 F1 ρ1 le1 r1 vvj st1 => ?_⟩
      split at r1
      · rename_i k
        have rk := st1.gd.val (B := slL σ ρ1)
        rw [RepV] at rk
        subst rk
        refine ⟨F1, Gx, ρ1, st1.drop1, r1.bind.mono fun v H2 F2 ρ2 le2 r2 vv st2 => ?_⟩
        obtain ⟨o1, o2, h1, h2, r3⟩ := r2.up
        obtain ⟨l', xs, e1, hH1, hz, hk0, hk1, st3⟩ := ins_run st2 h1 hx h2
        cases e1
        exact ⟨l, xs, k, vv, rfl, rfl, hH1, hz, hk0, hk1, (r3 (upd H2 l (.lst (xs.take k.toNat ++ [vv] ++ xs.drop k.toNat)))).pure _ F2 (Le.refl _) .non (st3.ofVal repN)⟩
      · obtain ⟨_, _, e⟩ := r1.run; cases e
    · obtain ⟨_, _, e⟩ := r.run; cases e
end
theorem takes_lam {X : Cx} {A : Around} {outer : List Env} {s : Shared} {H : Hp} {E : XK} {scope : Scope} {f c' : Addr} : Takes (LamX.lamCx X A outer s H E scope f c') (fun c d _ H => E c d H) := takes_of rfl rfl rfl rfl
theorem boot_ValueError : bootBuiltins "ValueError" = some (.type "ValueError") := by decide +kernel
end PF

set_option Elab.async false
set_option linter.all false
set_option maxRecDepth 100000
set_option maxHeartbeats 4000000
namespace G
open PySem PySem.Spec PyProof.Rows L2 PF
def tI (a b : Int) : D := .tup [.int a, .int b]
def tx (x : String) : D := .str (PySem.Str.ofString x)
def d_STEPS : D := .dct false [tx "e", tx "n", tx "o", tx "s", tx "w"] [tI 0 1, tI (-1) 0, tI 0 0, tI 1 0, tI 0 (-1)]
def d_RULES : D := .tup [tx "near", tx "first", tx "stay"]
def b_is_number : M Out :=
  retS (blO (andB ((biF isiF (two (seqP 0 (M.pure (.val (.ty "int")))))).bind asB) (andB (notB ((biF isiF (two (seqP 0 (M.pure (.val (.ty "bool")))))).bind asB)) (chI leC leC (pk 1) (pk 0) (pk 2)))))
def m_is_number : M O := defM 3 b_is_number
def b_need_count : M Out :=
  iteM (notB ((callF [none, none, none] (consA (rd 0) (consA (rd 1) (consA (rd 2) (nilA)))) [false, false, false] m_is_number).bind asB)) (M.stuck) (M.pure .nx)
def m_need_count : M O := defM 3 b_need_count
def b_is_cell : M Out :=
  seqS (iteM (orB (notB ((biF isiF (two (seqP 0 (M.pure (.val (.ty "tuple")))))).bind asB)) (cmpF neC (seq2 (biF lenF (one (pk 0))) (M.pure (.val (.int 2)))))) (retS (M.pure (.val (.bl false)))) (M.pure .nx))
    (retS (blO (andB ((callF [none, none, none] (consA (binF idxE (seqP 0 (M.pure (.val (.int 0))))) (consA (M.pure (.val (.int 0))) (consA (binF subG (seq2 (binF idxE (seqP 1 (M.pure (.val (.int 0))))) (M.pure (.val (.int 1))))) (nilA)))) [false, false, false] m_is_number).bind asB) ((callF [none, none, none] (consA (binF idxE (seqP 0 (M.pure (.val (.int 1))))) (consA (M.pure (.val (.int 0))) (consA (binF subG (seq2 (binF idxE (seqP 1 (M.pure (.val (.int 1))))) (M.pure (.val (.int 1))))) (nilA)))) [false, false, false] m_is_number).bind asB))))
def m_is_cell : M O := defM 2 b_is_cell
def b_is_post : M Out :=
  seqS (iteM (orB (notB ((biF isiF (two (seqP 0 (M.pure (.val (.ty "tuple")))))).bind asB)) (cmpF neC (seq2 (biF lenF (one (pk 0))) (M.pure (.val (.int 3)))))) (retS (M.pure (.val (.bl false)))) (M.pure .nx))
    (retS (blO (andB ((callF [none, none] (consA (sliP 0 (M.pure none) ((M.pure (.val (.int 2))).bind asI)) (consA (rd 1) (nilA))) [false, false] m_is_cell).bind asB) ((callF [none, none, none] (consA (binF idxE (seqP 0 (M.pure (.val (.int 2))))) (consA (M.pure (.val (.int 1))) (consA (M.pure (.val (.int 4))) (nilA)))) [false, false, false] m_is_number).bind asB))))
def m_is_post : M O := defM 2 b_is_post
def b_need_floor : M Out :=
  seqS (iteM (orB (notB ((biF isiF (two (seqP 0 (M.pure (.val (.ty "tuple")))))).bind asB)) (cmpF neC (seq2 (biF lenF (one (pk 0))) (M.pure (.val (.int 4)))))) (M.stuck) (M.pure .nx))
    (seqS ((rngI1 (one (M.pure (.val (.int 2))))).bind fun ds => forL (nmT 1) (iteM (notB ((callF [none, none, none] (consA (binF idxE (seqP 0 (pk 1))) (consA (M.pure (.val (.int 1))) (consA (M.pure (.val (.int 5))) (nilA)))) [false, false, false] m_is_number).bind asB)) (M.stuck) (M.pure .nx)) ds)
    ((seqI ((consA ((consA (M.pure (.val (.int 2))) (consA (M.pure (.val (.int 4))) (nilA))).bind tupM) (consA ((consA (M.pure (.val (.int 3))) (consA (M.pure (.val (.int 8))) (nilA))).bind tupM) (nilA))).bind tupM)).bind fun ds => forL (tupT 2 (consT (nmT 2) (consT (nmT 3) (nilT)))) (seqS (iteM (notB ((biF isiF (two (seq2 (binF idxE (seqP 0 (pk 2))) (M.pure (.val (.ty "tuple")))))).bind asB)) (M.stuck) (M.pure .nx))
    (seqS (setS 4 ((nilA).bind lstM))
    ((enI (binF idxE (seqP 0 (pk 2)))).bind fun ds => forL (tupT 2 (consT (nmT 1) (consT (nmT 5) (nilT)))) (seqS (setS 6 (iteM (cmpF eqC (seqP 2 (M.pure (.val (.int 2))))) (callF [none, none] (consA (rd 5) (consA (rd 0) (nilA))) [false, false] m_is_post) (callF [none, none] (consA (rd 5) (consA (rd 0) (nilA))) [false, false] m_is_cell)))
    (seqS (iteM (orB (cmpF eqC (seqP 1 (pk 3))) (orB (notB ((pk 6).bind asB)) (cmpF inE (seq2 (sliP 5 (M.pure none) ((M.pure (.val (.int 2))).bind asI)) (pk 4))))) (M.stuck) (M.pure .nx))
    (exprS (appF 4 (sliP 5 (M.pure none) ((M.pure (.val (.int 2))).bind asI)))))) ds))) ds))
def m_need_floor : M O := defM 7 b_need_floor
def b_need_sun : M Out :=
  seqS (iteM (orB (notB ((biF isiF (two (seqP 0 (M.pure (.val (.ty "str")))))).bind asB)) (cmpF eqC (seqP 0 (M.pure (.val (.str (PySem.Str.ofString ""))))))) (M.stuck) (M.pure .nx))
    ((enI (rd 0)).bind fun ds => forL (tupT 2 (consT (nmT 1) (consT (nmT 2) (nilT)))) (iteM (orB (cmpF eqC (seqP 1 (M.pure (.val (.int 6))))) (cmpF ninE (seqP 2 (M.pure (.val d_STEPS))))) (M.stuck) (M.pure .nx)) ds)
def m_need_sun : M O := defM 3 b_need_sun
def b_need_folk : M Out :=
  seqS (iteM (notB ((biF isiF (two (seqP 1 (M.pure (.val (.ty "tuple")))))).bind asB)) (M.stuck) (M.pure .nx))
    (seqS (setS 2 (lcF [8] (seqI (binF idxE (seqP 0 (M.pure (.val (.int 2)))))) (nmT 8) (M.pure true) (sliP 8 (M.pure none) ((M.pure (.val (.int 2))).bind asI))))
    (seqS (setS 3 ((nilA).bind lstM))
    ((enI (rd 1)).bind fun ds => forL (tupT 2 (consT (nmT 4) (consT (nmT 5) (nilT)))) (seqS (iteM (orB (cmpF eqC (seqP 4 (M.pure (.val (.int 4))))) (orB (notB ((biF isiF (two (seqP 5 (M.pure (.val (.ty "tuple")))))).bind asB)) (cmpF neC (seq2 (biF lenF (one (pk 5))) (M.pure (.val (.int 2))))))) (M.stuck) (M.pure .nx))
    (seqS (asgS (rd 5) (tupT 2 (consT (nmT 6) (consT (nmT 7) (nilT)))))
    (seqS (iteM (orB (notB ((callF [none, none] (consA (rd 6) (consA (rd 0) (nilA))) [false, false] m_is_cell).bind asB)) (orB (cmpF inE (seqP 6 (pk 2))) (orB (cmpF inE (seqP 6 (pk 3))) (orB (notB ((biF isiF (two (seqP 7 (M.pure (.val (.ty "str")))))).bind asB)) (cmpF ninE (seqP 7 (M.pure (.val d_RULES)))))))) (M.stuck) (M.pure .nx))
    (exprS (appF 3 (rd 6)))))) ds)))
def m_need_folk : M O := defM 9 b_need_folk
def b_all_cells : M Out :=
  retS (lc2F [1, 2] [2] (rngI1 (one (binF idxE (seqP 0 (M.pure (.val (.int 0))))))) (nmT 1) (M.pure true) (rngI1 (one (binF idxE (seqP 0 (M.pure (.val (.int 1))))))) (nmT 2) (M.pure true) ((consA (rd 1) (consA (rd 2) (nilA))).bind tupM))
def m_all_cells : M O := defM 3 b_all_cells
def b_shaded : M Out :=
  seqS (asgS (binF idxE (seq2 (M.pure (.val d_STEPS)) (pk 1))) (tupT 2 (consT (nmT 2) (consT (nmT 3) (nilT)))))
    (seqS (setS 4 (M.pure (.dct true [] [])))
    (seqS ((seqI (binF idxE (seqP 0 (M.pure (.val (.int 2)))))).bind fun ds => forL (tupT 3 (consT (nmT 5) (consT (nmT 6) (consT (nmT 7) (nilT))))) ((rngI2 (two (seq2 (M.pure (.val (.int 1))) (iteM (cmpF neC (seqP 1 (M.pure (.val (.str (PySem.Str.ofString "o")))))) (binF addG (seqP 7 (M.pure (.val (.int 1))))) (M.pure (.val (.int 1))))))).bind fun ds => forL (nmT 8) (asgS (M.pure (.val (.bl true))) (subT 4 ((consA (binF addG (seqP 5 (binF mulG (seqP 2 (pk 8))))) (consA (binF addG (seqP 6 (binF mulG (seqP 3 (pk 8))))) (nilA))).bind tupM))) ds) ds)
    (seqS ((seqI (binF idxE (seqP 0 (M.pure (.val (.int 3)))))).bind fun ds => forL (tupT 2 (consT (nmT 5) (consT (nmT 6) (nilT)))) (asgS (M.pure (.val (.bl true))) (subT 4 ((consA (binF addG (seqP 5 (pk 2))) (consA (binF addG (seqP 6 (pk 3))) (nilA))).bind tupM))) ds)
    (retS (dcF [9] (seqI (callF [none] (consA (rd 0) (nilA)) [false] m_all_cells)) (nmT 9) (cmpF inE (seqP 9 (pk 4))) (rd 9) (M.pure (.val (.bl true))))))))
def m_shaded : M O := defM 10 b_shaded
def b_shade : M Out :=
  seqS (exprS (callF [none] (consA (rd 0) (nilA)) [false] m_need_floor))
    (seqS (exprS (callF [none] (consA (rd 1) (nilA)) [false] m_need_sun))
    (seqS (exprS (callF [none, none, none] (consA (rd 2) (consA (M.pure (.val (.int 0))) (consA (binF powG (seq2 (M.pure (.val (.int 10))) (M.pure (.val (.int 18))))) (nilA)))) [false, false, false] m_need_count))
    (retS (biF srtF (one (callF [none, none] (consA (rd 0) (consA (binF idxE (seqP 1 (binF modG (seqP 2 (biF lenF (one (pk 1))))))) (nilA))) [false, false] m_shaded))))))
def m_shade : M O := defM 3 b_shade
def b_parted : M Out :=
  seqS (exprS (callF [none] (consA (rd 0) (nilA)) [false] m_need_floor))
    (seqS (exprS (callF [none] (consA (rd 1) (nilA)) [false] m_need_floor))
    (seqS (exprS (callF [none] (consA (rd 2) (nilA)) [false] m_need_sun))
    (seqS ((enI (rd 2)).bind fun ds => forL (tupT 2 (consT (nmT 3) (consT (nmT 4) (nilT)))) (seqS (par2 5 6 (consA (callF [none, none] (consA (rd 0) (consA (rd 4) (nilA))) [false, false] m_shaded) (consA (callF [none, none] (consA (rd 1) (consA (rd 4) (nilA))) [false, false] m_shaded) (nilA))))
    (seqS (setS 7 (lcF [8] (seqI (binF addG (seq2 (callF [none] (consA (rd 0) (nilA)) [false] m_all_cells) (callF [none] (consA (rd 1) (nilA)) [false] m_all_cells)))) (nmT 8) (cmpF neC (seq2 (blO (cmpF inE (seqP 8 (pk 5)))) (blO (cmpF inE (seqP 8 (pk 6)))))) (rd 8)))
    (iteM (cmpF neC (seqP 7 ((nilA).bind lstM))) (retS ((consA (rd 3) (consA (biF minF (one (pk 7))) (nilA))).bind tupM)) (M.pure .nx)))) ds)
    (retS (M.pure (.val .non))))))
def m_parted : M O := defM 9 b_parted
def b_far_from : M Out :=
  retS (binF addG (seq2 (biF absF (one (binF subG (seq2 (binF idxE (seqP 0 (M.pure (.val (.int 0))))) (binF idxE (seqP 1 (M.pure (.val (.int 0))))))))) (biF absF (one (binF subG (seq2 (binF idxE (seqP 0 (M.pure (.val (.int 1))))) (binF idxE (seqP 1 (M.pure (.val (.int 1)))))))))))
def m_far_from : M O := defM 2 b_far_from
def b_seat_for : M Out :=
  seqS (iteM (orB (cmpF eqC (seqP 0 (M.pure (.val (.str (PySem.Str.ofString "stay")))))) (cmpF eqC (seqP 2 ((nilA).bind lstM)))) (retS (rd 1)) (M.pure .nx))
    (seqS (iteM (cmpF eqC (seqP 0 (M.pure (.val (.str (PySem.Str.ofString "first")))))) (retS (binF idxE (seqP 2 (M.pure (.val (.int 0)))))) (M.pure .nx))
    (retS (minKF (rd 2) [1] ((consA (callF [none, none] (consA (rd 1) (consA (rd 0) (nilA))) [false, false] m_far_from) (consA (rd 0) (nilA))).bind tupM))))
def m_seat_for : M O := defM 3 b_seat_for
def b_moved : M Out :=
  seqS (setS 3 (callF [none, none] (consA (rd 0) (consA (rd 1) (nilA))) [false, false] m_shaded))
    (seqS (setS 4 (lcF [11] (seqI (binF idxE (seqP 0 (M.pure (.val (.int 2)))))) (nmT 11) (M.pure true) (sliP 11 (M.pure none) ((M.pure (.val (.int 2))).bind asI))))
    (seqS (setS 5 (biF lstF (one (pk 2))))
    (seqS ((enI (rd 2)).bind fun ds => forL (tupT 2 (consT (nmT 6) (consT (tupT 2 (consT (nmT 7) (consT (nmT 8) (nilT)))) (nilT)))) (iteM (cmpF ninE (seqP 7 (pk 3))) (seqS (setS 9 (lcB [12] 5 (nmT 12) (M.pure true) (binF idxE (seqP 12 (M.pure (.val (.int 0)))))))
    (seqS (setS 10 (lcF [13] (seqI (callF [none] (consA (rd 0) (nilA)) [false] m_all_cells)) (nmT 13) (andB (cmpF inE (seqP 13 (pk 3))) (cmpF ninE (seqP 13 (binF addG (seqP 9 (pk 4)))))) (rd 13)))
    (asgS ((consA (callF [none, none, none] (consA (rd 8) (consA (rd 7) (consA (rd 10) (nilA)))) [false, false, false] m_seat_for) (consA (rd 8) (nilA))).bind tupM) (subT 5 (rd 6))))) (M.pure .nx)) ds)
    (retS (biF tupF (one (pk 5)))))))
def m_moved : M O := defM 14 b_moved
def b_Course_init : M Out :=
  seqS (setS 4 (M.pure (.dct true [] [])))
    (seqS (fldS 0 0 (PySem.Str.ofString "rows") ((nilA).bind lstM))
    (seqS (setS 5 (M.pure (.val (.int 0))))
    (seqS (whileN (cmpF ninE (seq2 ((consA (rd 3) (consA (binF modG (seqP 5 (biF lenF (one (pk 2))))) (nilA))).bind tupM) (pk 4))) (seqS (asgS (rd 5) (subT 4 ((consA (rd 3) (consA (binF modG (seqP 5 (biF lenF (one (pk 2))))) (nilA))).bind tupM)))
    (seqS (exprS (appFldN 0 0 (PySem.Str.ofString "rows") 3))
    (seqS (setS 3 (callF [none, none, none] (consA (rd 1) (consA (binF idxE (seqP 2 (binF modG (seqP 5 (biF lenF (one (pk 2))))))) (consA (rd 3) (nilA)))) [false, false, false] m_moved))
    (augI 5 (M.pure (.val (.int 1))))))) lim)
    (seqS (fldS 0 0 (PySem.Str.ofString "tail") (binF idxE (seqP 4 ((consA (rd 3) (consA (binF modG (seqP 5 (biF lenF (one (pk 2))))) (nilA))).bind tupM))))
    (fldS 0 0 (PySem.Str.ofString "turn") (binF subG (seqP 5 (fldE 0 (PySem.Str.ofString "tail") (pk 0)))))))))
def m_Course_init : M O := defM 6 b_Course_init
def b_Course_at : M Out :=
  seqS (iteM (cmpF ltC (seqP 1 (biF lenF (one (fldE 0 (PySem.Str.ofString "rows") (pk 0)))))) (retS (binF idxE (seq2 (fldE 0 (PySem.Str.ofString "rows") (pk 0)) (pk 1)))) (M.pure .nx))
    (retS (binF idxE (seq2 (fldE 0 (PySem.Str.ofString "rows") (pk 0)) (binF addG (seq2 (fldE 0 (PySem.Str.ofString "tail") (pk 0)) (binF modG (seq2 (binF subG (seqP 1 (fldE 0 (PySem.Str.ofString "tail") (pk 0)))) (fldE 0 (PySem.Str.ofString "turn") (pk 0)))))))))
def m_Course_at : M O := defM 2 b_Course_at
def b_need_all : M Out :=
  seqS (exprS (callF [none] (consA (rd 0) (nilA)) [false] m_need_floor))
    (seqS (exprS (callF [none] (consA (rd 1) (nilA)) [false] m_need_sun))
    (exprS (callF [none, none] (consA (rd 0) (consA (rd 2) (nilA))) [false, false] m_need_folk)))
def m_need_all : M O := defM 3 b_need_all
def b_seats_of : M Out :=
  retS (biF tupF (one (lcF [1, 2] (seqI (rd 0)) (tupT 2 (consT (nmT 1) (consT (nmT 2) (nilT)))) (M.pure true) (rd 1))))
def m_seats_of : M O := defM 3 b_seats_of
def b_seated : M Out :=
  seqS (exprS (callF [none, none, none] (consA (rd 0) (consA (rd 1) (consA (rd 2) (nilA)))) [false, false, false] m_need_all))
    (seqS (exprS (callF [none, none, none] (consA (rd 3) (consA (M.pure (.val (.int 0))) (consA (M.pure (.val (.int 1000000000000000000))) (nilA)))) [false, false, false] m_need_count))
    (retS (callF [none] (consA (callF [none, none] (consA (chkM 0 (PySem.Str.ofString "at") (frzM (makeF 0 (consA (rd 0) (consA (rd 1) (consA (rd 2) (nilA)))) m_Course_init))) (consA (rd 3) (nilA))) [false, false] m_Course_at) (nilA)) [false] m_seats_of)))
def m_seated : M O := defM 4 b_seated
def b_course : M Out :=
  seqS (exprS (callF [none, none, none] (consA (rd 0) (consA (rd 1) (consA (rd 2) (nilA)))) [false, false, false] m_need_all))
    (seqS (setS 3 (frzM (makeF 0 (consA (rd 0) (consA (rd 1) (consA (rd 2) (nilA)))) m_Course_init)))
    (retS ((consA (fldE 0 (PySem.Str.ofString "tail") (pk 3)) (consA (fldE 0 (PySem.Str.ofString "turn") (pk 3)) (consA (lcF [4] (seqI (fldE 0 (PySem.Str.ofString "rows") (pk 3))) (nmT 4) (M.pure true) (callF [none] (consA (rd 4) (nilA)) [false] m_seats_of)) (nilA)))).bind tupM)))
def m_course : M O := defM 5 b_course
def b_restless : M Out :=
  seqS (exprS (callF [none, none, none] (consA (rd 0) (consA (rd 1) (consA (rd 2) (nilA)))) [false, false, false] m_need_all))
    (seqS (setS 3 (frzM (makeF 0 (consA (rd 0) (consA (rd 1) (consA (rd 2) (nilA)))) m_Course_init)))
    (seqS (setS 4 (sliF (fldE 0 (PySem.Str.ofString "rows") (pk 3)) ((fldE 0 (PySem.Str.ofString "tail") (pk 3)).bind asI) (M.pure none)))
    (retS (lcF [5] (rngI1 (one (biF lenF (one (pk 2))))) (nmT 5) ((biF anyF (one (lcF [6] (seqI (rd 4)) (nmT 6) (M.pure true) (blO (cmpF neC (seq2 (binF idxE (seqP 6 (pk 5))) (binF idxE (seq2 (binF idxE (seqP 4 (M.pure (.val (.int 0))))) (pk 5))))))))).bind asB) (rd 5)))))
def m_restless : M O := defM 7 b_restless
def b_suns_of : M Out :=
  seqS (setS 3 (callF [none, none] (consA (rd 0) (consA (rd 1) (nilA))) [false, false] m_shaded))
    (retS (lcF [4, 5, 6] (enI (rd 2)) (tupT 2 (consT (nmT 4) (consT (tupT 2 (consT (nmT 5) (consT (nmT 6) (nilT)))) (nilT)))) (cmpF ninE (seqP 5 (pk 3))) (rd 4)))
def m_suns_of : M O := defM 7 b_suns_of
def b_scorched : M Out :=
  seqS (exprS (callF [none, none, none] (consA (rd 0) (consA (rd 1) (consA (rd 2) (nilA)))) [false, false, false] m_need_all))
    (seqS (setS 3 (frzM (makeF 0 (consA (rd 0) (consA (rd 1) (consA (rd 2) (nilA)))) m_Course_init)))
    (seqS (setS 4 (lcF [7] (seqI (rd 2)) (nmT 7) (M.pure true) ((consA (M.pure (.val (.int 0))) (consA (M.pure (.val (.int 0))) (nilA))).bind lstM)))
    (seqS ((rngI1 (one (binF addG (seq2 (fldE 0 (PySem.Str.ofString "tail") (pk 3)) (fldE 0 (PySem.Str.ofString "turn") (pk 3)))))).bind fun ds => forL (nmT 5) ((seqI (callF [none, none, none] (consA (rd 0) (consA (binF idxE (seqP 1 (binF modG (seqP 5 (biF lenF (one (pk 1))))))) (consA (callF [none, none] (consA (chkM 0 (PySem.Str.ofString "at") (rd 3)) (consA (binF addG (seqP 5 (M.pure (.val (.int 1))))) (nilA))) [false, false] m_Course_at) (nilA)))) [false, false, false] m_suns_of)).bind fun ds => forL (nmT 6) (aug2S 4 (rd 6) (biF intF (one (blO (cmpF geC (seqP 5 (fldE 0 (PySem.Str.ofString "tail") (pk 3))))))) 1) ds) ds)
    (retS (lcF [8] (seqI (rd 4)) (nmT 8) (M.pure true) (biF tupF (one (pk 8))))))))
def m_scorched : M O := defM 9 b_scorched
def b_need_told : M Out :=
  seqS (iteM (notB ((biF isiF (two (seqP 2 (M.pure (.val (.ty "tuple")))))).bind asB)) (M.stuck) (M.pure .nx))
    ((enI (rd 2)).bind fun ds => forL (tupT 2 (consT (nmT 3) (consT (nmT 4) (nilT)))) (seqS (setS 5 (blO (andB (cmpF ltC (seqP 3 (M.pure (.val (.int 6))))) (andB ((biF isiF (two (seqP 4 (M.pure (.val (.ty "tuple")))))).bind asB) (cmpF eqC (seq2 (biF lenF (one (pk 4))) (biF lenF (one (pk 1)))))))))
    (iteM (orB (notB ((pk 5).bind asB)) (notB ((biF allF (one (lcF [6] (seqI (rd 4)) (nmT 6) (M.pure true) (callF [none, none] (consA (rd 6) (consA (rd 0) (nilA))) [false, false] m_is_cell)))).bind asB))) (M.stuck) (M.pure .nx))) ds)
def m_need_told : M O := defM 7 b_need_told
def b_suns : M Out :=
  seqS (exprS (callF [none] (consA (rd 0) (nilA)) [false] m_need_floor))
    (seqS (exprS (callF [none, none] (consA (rd 0) (consA (rd 1) (nilA))) [false, false] m_need_folk))
    (seqS (exprS (callF [none, none, none] (consA (rd 0) (consA (rd 1) (consA (rd 2) (nilA)))) [false, false, false] m_need_told))
    (seqS (setS 3 ((consA ((consA (M.pure (.val (.str (PySem.Str.ofString "")))) (consA (rd 1) (nilA))).bind tupM) (nilA)).bind lstM))
    (seqS ((seqI (rd 2)).bind fun ds => forL (nmT 4) (seqS (setS 5 ((nilA).bind lstM))
    (seqS ((seqI (rd 3)).bind fun ds => forL (tupT 2 (consT (nmT 6) (consT (nmT 7) (nilT)))) ((seqI (M.pure (.lst ((srtD ([(PySem.Str.ofString "e"), (PySem.Str.ofString "n"), (PySem.Str.ofString "o"), (PySem.Str.ofString "s"), (PySem.Str.ofString "w")].map D.str)).map O.val)))).bind fun ds => forL (nmT 8) (seqS (setS 9 (callF [none, none, none] (consA (rd 0) (consA (rd 8) (consA (rd 7) (nilA)))) [false, false, false] m_moved))
    (iteM (cmpF eqC (seq2 (callF [none] (consA (rd 9) (nilA)) [false] m_seats_of) (pk 4))) (exprS (appF 5 ((consA (binF addG (seqP 6 (pk 8))) (consA (rd 9) (nilA))).bind tupM))) (M.pure .nx))) ds) ds)
    (setS 3 (rd 5)))) ds)
    (retS (lcF [6, 7] (seqI (rd 3)) (tupT 2 (consT (nmT 6) (consT (nmT 7) (nilT)))) (M.pure true) (rd 6)))))))
def m_suns : M O := defM 10 b_suns
def b_free_cells : M Out :=
  seqS (setS 1 (lcF [2] (seqI (binF idxE (seqP 0 (M.pure (.val (.int 2)))))) (nmT 2) (M.pure true) (sliP 2 (M.pure none) ((M.pure (.val (.int 2))).bind asI))))
    (retS (lcF [3] (seqI (callF [none] (consA (rd 0) (nilA)) [false] m_all_cells)) (nmT 3) (cmpF ninE (seqP 3 (pk 1))) (rd 3)))
def m_free_cells : M O := defM 4 b_free_cells
def b_need_rule : M Out :=
  iteM (orB (notB ((biF isiF (two (seqP 0 (M.pure (.val (.ty "str")))))).bind asB)) (cmpF ninE (seqP 0 (M.pure (.val d_RULES))))) (M.stuck) (M.pure .nx)
def m_need_rule : M O := defM 1 b_need_rule
def b_parting : M Out :=
  seqS (exprS (callF [none] (consA (rd 0) (nilA)) [false] m_need_floor))
    (seqS (exprS (callF [none] (consA (rd 1) (nilA)) [false] m_need_sun))
    (seqS (exprS (callF [none] (consA (rd 2) (nilA)) [false] m_need_rule))
    (seqS (exprS (callF [none] (consA (rd 3) (nilA)) [false] m_need_rule))
    (seqS (setS 4 (M.pure (.val .non)))
    (seqS ((seqI (callF [none] (consA (rd 0) (nilA)) [false] m_free_cells)).bind fun ds => forL (nmT 5) (seqS (par2 6 7 (consA (frzM (makeF 0 (consA (rd 0) (consA (rd 1) (consA ((consA ((consA (rd 5) (consA (rd 2) (nilA))).bind tupM) (nilA)).bind tupM) (nilA)))) m_Course_init)) (consA (frzM (makeF 0 (consA (rd 0) (consA (rd 1) (consA ((consA ((consA (rd 5) (consA (rd 3) (nilA))).bind tupM) (nilA)).bind tupM) (nilA)))) m_Course_init)) (nilA))))
    (seqS (setS 8 (binF addG (seq2 (biF max2F (two (seq2 (fldE 0 (PySem.Str.ofString "tail") (pk 6)) (fldE 0 (PySem.Str.ofString "tail") (pk 7))))) (binF mulG (seq2 (fldE 0 (PySem.Str.ofString "turn") (pk 6)) (fldE 0 (PySem.Str.ofString "turn") (pk 7)))))))
    (seqS (setS 9 (sliF (lcF [10] (rngI1 (one (binF addG (seqP 8 (M.pure (.val (.int 1))))))) (nmT 10) (cmpF neC (seq2 (callF [none] (consA (callF [none, none] (consA (chkM 0 (PySem.Str.ofString "at") (rd 6)) (consA (rd 10) (nilA))) [false, false] m_Course_at) (nilA)) [false] m_seats_of) (callF [none] (consA (callF [none, none] (consA (chkM 0 (PySem.Str.ofString "at") (rd 7)) (consA (rd 10) (nilA))) [false, false] m_Course_at) (nilA)) [false] m_seats_of))) (rd 10)) (M.pure none) ((M.pure (.val (.int 1))).bind asI)))
    (iteM (andB (cmpF neC (seqP 9 ((nilA).bind lstM))) (orB (cmpF isC (seqP 4 (M.pure (.val .non)))) (cmpF ltC (seq2 (binF idxE (seqP 9 (M.pure (.val (.int 0))))) (binF idxE (seqP 4 (M.pure (.val (.int 0))))))))) (setS 4 ((consA (binF idxE (seqP 9 (M.pure (.val (.int 0))))) (consA (rd 5) (nilA))).bind tupM)) (M.pure .nx))))) ds)
    (retS (rd 4)))))))
def m_parting : M O := defM 11 b_parting
def b__law_taken : M Out :=
  seqS (iteM (cmpF gtC (seq2 (binF idxE (seqP 0 (M.pure (.val (.int 3))))) (M.pure (.val (.int 0))))) (seqS (setS 2 (binF modG (seq2 (binF idxE (seqP 0 (M.pure (.val (.int 3))))) (pk 1))))
    (seqS (asgS (binF divG (seq2 (binF idxE (seqP 0 (M.pure (.val (.int 3))))) (pk 1))) (subT 0 (M.pure (.val (.int 3)))))
    (retS (rd 2)))) (M.pure .nx))
    (seqS (asgS (binF addG (seq2 (binF idxE (seqP 0 (M.pure (.val (.int 1))))) (M.pure (.val (.int 1))))) (subT 0 (M.pure (.val (.int 1)))))
    (seqS (iteM (cmpF gtC (seq2 (binF idxE (seqP 0 (M.pure (.val (.int 1))))) (biF lenF (one (binF idxE (seqP 0 (M.pure (.val (.int 0))))))))) (seqS (asgS (binF modG (seq2 (binF addG (seq2 (binF mulG (seq2 (binF idxE (seqP 0 (M.pure (.val (.int 2))))) (M.pure (.val (.int 48271))))) (M.pure (.val (.int 11))))) (M.pure (.val (.int 2147483647))))) (subT 0 (M.pure (.val (.int 2)))))
    (retS (binF modG (seq2 (binF divG (seq2 (binF idxE (seqP 0 (M.pure (.val (.int 2))))) (M.pure (.val (.int 7))))) (pk 1))))) (M.pure .nx))
    (seqS (setS 3 (binF idxE (seq2 (binF idxE (seqP 0 (M.pure (.val (.int 0))))) (binF subG (seq2 (binF idxE (seqP 0 (M.pure (.val (.int 1))))) (M.pure (.val (.int 1))))))))
    (seqS (asgS (binF modG (seq2 (binF addG (seq2 (binF addG (seq2 (binF mulG (seq2 (binF idxE (seqP 0 (M.pure (.val (.int 2))))) (M.pure (.val (.int 48271))))) (pk 3))) (M.pure (.val (.int 11))))) (M.pure (.val (.int 2147483647))))) (subT 0 (M.pure (.val (.int 2)))))
    (seqS (iteM (cmpF geC (seqP 3 (binF powG (seq2 (M.pure (.val (.int 10))) (M.pure (.val (.int 18))))))) (asgS (binF divG (seqP 3 (pk 1))) (subT 0 (M.pure (.val (.int 3))))) (M.pure .nx))
    (retS (binF modG (seqP 3 (pk 1)))))))))
def m__law_taken : M O := defM 4 b__law_taken
def b__law_alike (m : M O) : M Out :=
  seqS (iteM (andB ((biF isiF (two (seqP 0 ((consA (M.pure (.val (.ty "tuple"))) (consA (M.pure (.val (.ty "list"))) (nilA))).bind tupM)))).bind asB) ((biF isiF (two (seqP 1 ((consA (M.pure (.val (.ty "tuple"))) (consA (M.pure (.val (.ty "list"))) (nilA))).bind tupM)))).bind asB)) (seqS (iteM (orB (cmpF neC (seq2 (biF isiF (two (seqP 0 (M.pure (.val (.ty "tuple")))))) (biF isiF (two (seqP 1 (M.pure (.val (.ty "tuple")))))))) (cmpF neC (seq2 (biF lenF (one (pk 0))) (biF lenF (one (pk 1)))))) (retS (M.pure (.val (.bl false)))) (M.pure .nx))
    (retS (blO (cmpF eqC (seq2 (lcF [2] (rngI1 (one (biF lenF (one (pk 0))))) (nmT 2) (notB ((callF [none, none] (consA (binF idxE (seqP 0 (pk 2))) (consA (binF idxE (seqP 1 (pk 2))) (nilA))) [false, false] m).bind asB)) (rd 2)) ((nilA).bind lstM)))))) (M.pure .nx))
    (retS (blO (andB (cmpF eqC (seqP 0 (pk 1))) (cmpF eqC (seq2 (biF isiF (two (seqP 0 (M.pure (.val (.ty "bool")))))) (biF isiF (two (seqP 1 (M.pure (.val (.ty "bool")))))))))))
def m__law_alike : Nat → M O
  | 0 => M.stuck
  | n + 1 => defM 3 (b__law_alike (m__law_alike n))
def b__law_floor : M Out :=
  seqS (par2 2 3 (consA (binF addG (seq2 (M.pure (.val (.int 1))) (callF [some 0, none] (refA 0 (consA (rd 1) (nilA))) [true, false] m__law_taken))) (consA (binF addG (seq2 (M.pure (.val (.int 1))) (callF [some 0, none] (refA 0 (consA (rd 1) (nilA))) [true, false] m__law_taken))) (nilA))))
    (seqS (par2 4 5 (consA ((nilA).bind lstM) (consA ((nilA).bind lstM) (nilA))))
    (seqS ((rngI1 (one (callF [some 0, none] (refA 0 (consA (M.pure (.val (.int 4))) (nilA))) [true, false] m__law_taken))).bind fun ds => forL (nmT 6) (seqS (setS 7 ((consA (callF [some 0, none] (refA 0 (consA (rd 2) (nilA))) [true, false] m__law_taken) (consA (callF [some 0, none] (refA 0 (consA (rd 3) (nilA))) [true, false] m__law_taken) (nilA))).bind tupM))
    (iteM (cmpF ninE (seqP 7 (lcB [8] 4 (nmT 8) (M.pure true) (sliP 8 (M.pure none) ((M.pure (.val (.int 2))).bind asI))))) (exprS (appF 4 (binF addG (seqP 7 ((consA (binF addG (seq2 (M.pure (.val (.int 1))) (callF [some 0, none] (refA 0 (consA (M.pure (.val (.int 4))) (nilA))) [true, false] m__law_taken))) (nilA)).bind tupM))))) (M.pure .nx))) ds)
    (seqS ((rngI1 (one (callF [some 0, none] (refA 0 (consA (binF idxE (seq2 ((consA (M.pure (.val (.int 3))) (consA (M.pure (.val (.int 9))) (nilA))).bind lstM) (callF [some 0, none] (refA 0 (consA (M.pure (.val (.int 2))) (nilA))) [true, false] m__law_taken))) (nilA))) [true, false] m__law_taken))).bind fun ds => forL (nmT 6) (seqS (setS 7 ((consA (callF [some 0, none] (refA 0 (consA (rd 2) (nilA))) [true, false] m__law_taken) (consA (callF [some 0, none] (refA 0 (consA (rd 3) (nilA))) [true, false] m__law_taken) (nilA))).bind tupM))
    (setS 5 (binF addG (seqP 5 (binF mulG (seq2 ((consA (rd 7) (nilA)).bind lstM) (biF intF (one (blO (cmpF ninE (seqP 7 (pk 5)))))))))))) ds)
    (retS ((consA (rd 2) (consA (rd 3) (consA (biF tupF (one (pk 4))) (consA (biF tupF (one (pk 5))) (nilA))))).bind tupM)))))
def m__law_floor : M O := defM 9 b__law_floor
def b__law_sun : M Out :=
  retS (sm1 joinG (M.pure (.val (.str (PySem.Str.ofString "")))) (lcF [1] (rngI1 (one (binF addG (seq2 (M.pure (.val (.int 1))) (callF [some 0, none] (refA 0 (consA (binF idxE (seq2 ((consA (M.pure (.val (.int 2))) (consA (M.pure (.val (.int 6))) (nilA))).bind lstM) (callF [some 0, none] (refA 0 (consA (M.pure (.val (.int 2))) (nilA))) [true, false] m__law_taken))) (nilA))) [true, false] m__law_taken))))) (nmT 1) (M.pure true) (binF idxE (seq2 (M.pure (.val (.str (PySem.Str.ofString "ensow")))) (callF [some 0, none] (refA 0 (consA (M.pure (.val (.int 5))) (nilA))) [true, false] m__law_taken)))))
def m__law_sun : M O := defM 2 b__law_sun
def b__law_folk : M Out :=
  seqS (par2 3 4 (consA ((nilA).bind lstM) (consA (lcF [7] (seqI (binF idxE (seqP 1 (M.pure (.val (.int 2)))))) (nmT 7) (M.pure true) (sliP 7 (M.pure none) ((M.pure (.val (.int 2))).bind asI))) (nilA))))
    (seqS ((rngI1 (one (callF [some 0, none] (refA 0 (consA (binF addG (seqP 2 (M.pure (.val (.int 1))))) (nilA))) [true, false] m__law_taken))).bind fun ds => forL (nmT 5) (seqS (setS 6 ((consA (callF [some 0, none] (refA 0 (consA (binF idxE (seqP 1 (M.pure (.val (.int 0))))) (nilA))) [true, false] m__law_taken) (consA (callF [some 0, none] (refA 0 (consA (binF idxE (seqP 1 (M.pure (.val (.int 1))))) (nilA))) [true, false] m__law_taken) (nilA))).bind tupM))
    (iteM (cmpF ninE (seqP 6 (pk 4))) (seqS (exprS (appF 4 (rd 6)))
    (exprS (appF 3 ((consA (rd 6) (consA (binF idxE (seq2 ((consA (M.pure (.val (.str (PySem.Str.ofString "near")))) (consA (M.pure (.val (.str (PySem.Str.ofString "first")))) (consA (M.pure (.val (.str (PySem.Str.ofString "near")))) (consA (M.pure (.val (.str (PySem.Str.ofString "first")))) (consA (M.pure (.val (.str (PySem.Str.ofString "stay")))) (nilA)))))).bind lstM) (callF [some 0, none] (refA 0 (consA (M.pure (.val (.int 5))) (nilA))) [true, false] m__law_taken))) (nilA))).bind tupM)))) (M.pure .nx))) ds)
    (retS (biF tupF (one (pk 3)))))
def m__law_folk : M O := defM 8 b__law_folk
def b__law_is_shady : M Out :=
  seqS (asgS (binF idxE (seq2 (dispF [(PySem.Str.ofString "n"), (PySem.Str.ofString "s"), (PySem.Str.ofString "e"), (PySem.Str.ofString "w"), (PySem.Str.ofString "o")] (consA ((consA (binF subG (seq2 (M.pure (.val (.int 0))) (M.pure (.val (.int 1))))) (consA (M.pure (.val (.int 0))) (nilA))).bind tupM) (consA ((consA (M.pure (.val (.int 1))) (consA (M.pure (.val (.int 0))) (nilA))).bind tupM) (consA ((consA (M.pure (.val (.int 0))) (consA (M.pure (.val (.int 1))) (nilA))).bind tupM) (consA ((consA (M.pure (.val (.int 0))) (consA (binF subG (seq2 (M.pure (.val (.int 0))) (M.pure (.val (.int 1))))) (nilA))).bind tupM) (consA ((consA (M.pure (.val (.int 0))) (consA (M.pure (.val (.int 0))) (nilA))).bind tupM) (nilA))))))) (pk 1))) (tupT 2 (consT (nmT 3) (consT (nmT 4) (nilT)))))
    (seqS (iteM (cmpF inE (seq2 ((consA (binF subG (seq2 (binF idxE (seqP 2 (M.pure (.val (.int 0))))) (pk 3))) (consA (binF subG (seq2 (binF idxE (seqP 2 (M.pure (.val (.int 1))))) (pk 4))) (nilA))).bind tupM) (binF idxE (seqP 0 (M.pure (.val (.int 3))))))) (retS (M.pure (.val (.bl true)))) (M.pure .nx))
    (seqS ((seqI (binF idxE (seqP 0 (M.pure (.val (.int 2)))))).bind fun ds => forL (nmT 5) (seqS (setS 6 (lcF [7] (rngI2 (two (seq2 (M.pure (.val (.int 1))) (binF addG (seq2 (binF idxE (seqP 5 (M.pure (.val (.int 2))))) (M.pure (.val (.int 1)))))))) (nmT 7) (M.pure true) ((consA (binF subG (seq2 (binF idxE (seqP 2 (M.pure (.val (.int 0))))) (binF mulG (seqP 7 (pk 3))))) (consA (binF subG (seq2 (binF idxE (seqP 2 (M.pure (.val (.int 1))))) (binF mulG (seqP 7 (pk 4))))) (nilA))).bind tupM)))
    (iteM (andB (cmpF neC (seqP 1 (M.pure (.val (.str (PySem.Str.ofString "o")))))) (cmpF inE (seq2 (sliP 5 (M.pure none) ((M.pure (.val (.int 2))).bind asI)) (pk 6)))) (retS (M.pure (.val (.bl true)))) (M.pure .nx))) ds)
    (retS (M.pure (.val (.bl false))))))
def m__law_is_shady : M O := defM 8 b__law_is_shady
def b__law_cells : M Out :=
  retS (lcF [1] (rngI1 (one (binF mulG (seq2 (binF idxE (seqP 0 (M.pure (.val (.int 0))))) (binF idxE (seqP 0 (M.pure (.val (.int 1))))))))) (nmT 1) (M.pure true) ((consA (binF divG (seqP 1 (binF idxE (seqP 0 (M.pure (.val (.int 1))))))) (consA (binF modG (seqP 1 (binF idxE (seqP 0 (M.pure (.val (.int 1))))))) (nilA))).bind tupM))
def m__law_cells : M O := defM 2 b__law_cells
def b__law_beat : M Out :=
  seqS (par2 3 4 (consA (lcF [11] (seqI (rd 2)) (nmT 11) (M.pure true) (binF idxE (seqP 11 (M.pure (.val (.int 0)))))) (consA (lcF [12] (seqI (binF idxE (seqP 0 (M.pure (.val (.int 2)))))) (nmT 12) (M.pure true) (sliP 12 (M.pure none) ((M.pure (.val (.int 2))).bind asI))) (nilA))))
    (seqS (setS 5 (lcF [13] (seqI (callF [none] (consA (rd 0) (nilA)) [false] m__law_cells)) (nmT 13) (andB (cmpF ninE (seqP 13 (pk 4))) ((callF [none, none, none] (consA (rd 0) (consA (rd 1) (consA (rd 13) (nilA)))) [false, false, false] m__law_is_shady).bind asB)) (rd 13)))
    (seqS ((rngI1 (one (biF lenF (one (pk 2))))).bind fun ds => forL (nmT 6) (seqS (asgS (binF idxE (seqP 2 (pk 6))) (tupT 2 (consT (nmT 7) (consT (nmT 8) (nilT)))))
    (seqS (setS 9 (lcF [13] (seqI (rd 5)) (nmT 13) (cmpF ninE (seqP 13 (pk 3))) (rd 13)))
    (iteM (andB (cmpF neC (seqP 8 (M.pure (.val (.str (PySem.Str.ofString "stay")))))) (andB (cmpF neC (seqP 9 ((nilA).bind lstM))) (notB ((callF [none, none, none] (consA (rd 0) (consA (rd 1) (consA (rd 7) (nilA)))) [false, false, false] m__law_is_shady).bind asB)))) (seqS (setS 10 (lcF [13] (seqI (rd 9)) (nmT 13) (M.pure true) ((consA (binF addG (seq2 (biF absF (one (binF subG (seq2 (binF idxE (seqP 13 (M.pure (.val (.int 0))))) (binF idxE (seqP 7 (M.pure (.val (.int 0))))))))) (biF absF (one (binF subG (seq2 (binF idxE (seqP 13 (M.pure (.val (.int 1))))) (binF idxE (seqP 7 (M.pure (.val (.int 1))))))))))) (consA (rd 13) (nilA))).bind tupM)))
    (asgS (iteM (cmpF eqC (seqP 8 (M.pure (.val (.str (PySem.Str.ofString "near")))))) (binF idxE (seq2 (biF minF (one (pk 10))) (M.pure (.val (.int 1))))) (binF idxE (seqP 9 (M.pure (.val (.int 0)))))) (subT 3 (rd 6)))) (M.pure .nx)))) ds)
    (retS (biF tupF (one (lcF [6] (rngI1 (one (biF lenF (one (pk 2))))) (nmT 6) (M.pure true) ((consA (binF idxE (seqP 3 (pk 6))) (consA (binF idxE (seq2 (binF idxE (seqP 2 (pk 6))) (M.pure (.val (.int 1))))) (nilA))).bind tupM)))))))
def m__law_beat : M O := defM 14 b__law_beat
def b__law_seats : M Out :=
  retS (biF tupF (one (lcF [1] (seqI (rd 0)) (nmT 1) (M.pure true) (binF idxE (seqP 1 (M.pure (.val (.int 0))))))))
def m__law_seats : M O := defM 2 b__law_seats
def b__law_burnt : M Out :=
  retS (lcF [3] (rngI1 (one (biF lenF (one (pk 2))))) (nmT 3) (notB ((callF [none, none, none] (consA (rd 0) (consA (rd 1) (consA (binF idxE (seq2 (binF idxE (seqP 2 (pk 3))) (M.pure (.val (.int 0))))) (nilA)))) [false, false, false] m__law_is_shady).bind asB)) (rd 3))
def m__law_burnt : M O := defM 4 b__law_burnt
def b__law_walk : M Out :=
  seqS (par2 3 4 (consA (M.pure (.dct true [] [])) (consA ((nilA).bind lstM) (nilA))))
    (seqS (whileN (cmpF ninE (seq2 ((consA (rd 2) (consA (binF modG (seq2 (biF lenF (one (pk 4))) (biF lenF (one (pk 1))))) (nilA))).bind tupM) (pk 3))) (seqS (asgS (biF lenF (one (pk 4))) (subT 3 ((consA (rd 2) (consA (binF modG (seq2 (biF lenF (one (pk 4))) (biF lenF (one (pk 1))))) (nilA))).bind tupM)))
    (seqS (exprS (appF 4 (rd 2)))
    (setS 2 (callF [none, none, none] (consA (rd 0) (consA (binF idxE (seqP 1 (binF modG (seq2 (binF subG (seq2 (biF lenF (one (pk 4))) (M.pure (.val (.int 1))))) (biF lenF (one (pk 1))))))) (consA (rd 2) (nilA)))) [false, false, false] m__law_beat)))) lim)
    (retS ((consA (rd 4) (consA (binF idxE (seqP 3 ((consA (rd 2) (consA (binF modG (seq2 (biF lenF (one (pk 4))) (biF lenF (one (pk 1))))) (nilA))).bind tupM))) (nilA))).bind tupM)))
def m__law_walk : M O := defM 5 b__law_walk
def b__law_at : M Out :=
  seqS (iteM (cmpF ltC (seqP 2 (biF lenF (one (pk 0))))) (retS (binF idxE (seqP 0 (pk 2)))) (M.pure .nx))
    (retS (binF idxE (seqP 0 (binF addG (seqP 1 (binF modG (seq2 (binF subG (seqP 2 (pk 1))) (binF subG (seq2 (biF lenF (one (pk 0))) (pk 1))))))))))
def m__law_at : M O := defM 3 b__law_at
end G

set_option Elab.async false
set_option linter.all false
set_option maxRecDepth 100000
set_option maxHeartbeats 4000000
namespace G
open PySem PySem.Spec PyProof.Rows L2 PF
def b_first_in_sun : M Out :=
  seqS (setS 3 (frzM (makeF 0 (consA (rd 0) (consA (rd 1) (consA (rd 2) (nilA)))) m_Course_init)))
    (seqS ((rngI1 (one (binF addG (seq2 (fldE 0 (PySem.Str.ofString "tail") (pk 3)) (fldE 0 (PySem.Str.ofString "turn") (pk 3)))))).bind fun ds => forL (nmT 4) (iteM (cmpF neC (seq2 (callF [none, none, none] (consA (rd 0) (consA (binF idxE (seqP 1 (binF modG (seqP 4 (biF lenF (one (pk 1))))))) (consA (callF [none, none] (consA (chkM 0 (PySem.Str.ofString "at") (rd 3)) (consA (binF addG (seqP 4 (M.pure (.val (.int 1))))) (nilA))) [false, false] m_Course_at) (nilA)))) [false, false, false] m_suns_of) ((nilA).bind lstM))) (retS (rd 4)) (M.pure .nx)) ds)
    (retS (M.pure (.val .non))))
def m_first_in_sun : M O := defM 5 b_first_in_sun
def b_chosen (m : M O) : M Out :=
  seqS (iteM (cmpF eqC (seqP 1 (M.pure (.val (.int 0))))) (retS ((consA ((nilA).bind tupM) (nilA)).bind lstM)) (M.pure .nx))
    (seqS (setS 2 ((nilA).bind lstM))
    (seqS ((enI (rd 0)).bind fun ds => forL (tupT 2 (consT (nmT 3) (consT (nmT 4) (nilT)))) (exprS (extF 2 (lcF [5] (seqI (callF [none, none] (consA (sliP 0 ((binF addG (seqP 3 (M.pure (.val (.int 1))))).bind asI) (M.pure none)) (consA (binF subG (seqP 1 (M.pure (.val (.int 1))))) (nilA))) [false, false] m)) (nmT 5) (M.pure true) (binF addG (seq2 ((consA (rd 4) (nilA)).bind tupM) (pk 5)))))) ds)
    (retS (rd 2))))
def m_chosen : Nat → M O
  | 0 => M.stuck
  | n + 1 => defM 6 (b_chosen (m_chosen n))
def b_awnings : M Out :=
  seqS (exprS (callF [none, none, none] (consA (rd 0) (consA (rd 1) (consA (rd 2) (nilA)))) [false, false, false] m_need_all))
    (seqS (exprS (callF [none, none, none] (consA (rd 3) (consA (M.pure (.val (.int 0))) (consA (M.pure (.val (.int 3))) (nilA)))) [false, false, false] m_need_count))
    (seqS (setS 4 (lcF [7] (seqI (callF [none] (consA (rd 0) (nilA)) [false] m_all_cells)) (nmT 7) (cmpF ninE (seqP 7 (binF idxE (seqP 0 (M.pure (.val (.int 3))))))) (rd 7)))
    (seqS ((rngI1 (one (binF addG (seqP 3 (M.pure (.val (.int 1))))))).bind fun ds => forL (nmT 5) ((seqI (callF [none, none] (consA (rd 4) (consA (rd 5) (nilA))) [false, false] (m_chosen 5))).bind fun ds => forL (nmT 6) (iteM (cmpF isC (seq2 (callF [none, none, none] (consA (binF addG (seq2 (sliP 0 (M.pure none) ((M.pure (.val (.int 3))).bind asI)) ((consA (binF addG (seq2 (binF idxE (seqP 0 (M.pure (.val (.int 3))))) (pk 6))) (nilA)).bind tupM))) (consA (rd 1) (consA (rd 2) (nilA)))) [false, false, false] m_first_in_sun) (M.pure (.val .non)))) (retS (rd 6)) (M.pure .nx)) ds) ds)
    (retS (M.pure (.val .non))))))
def m_awnings : M O := defM 8 b_awnings
end G

set_option Elab.async false
set_option linter.all false
set_option maxRecDepth 100000
set_option maxHeartbeats 4000000
namespace G
open PySem PySem.Spec PyProof.Rows L2 PF
def b_paper : M Out :=
  seqS (exprS (callF [none, none, none] (consA (rd 0) (consA (rd 1) (consA (rd 2) (nilA)))) [false, false, false] m_need_all))
    (seqS (setS 3 (callF [none, none, none] (consA (rd 0) (consA (rd 1) (consA (rd 2) (nilA)))) [false, false, false] m_first_in_sun))
    (seqS (iteM (cmpF isNC (seqP 3 (M.pure (.val .non)))) (raiseF 10 [(PySem.Str.ofString "beat")] (consA (rd 3) (nilA))) (M.pure .nx))
    (seqS (setS 4 (frzM (makeF 0 (consA (rd 0) (consA (rd 1) (consA (rd 2) (nilA)))) m_Course_init)))
    (retS (biF srtF (one (lcF [5, 6] (enI (fldE 0 (PySem.Str.ofString "rows") (pk 4))) (tupT 2 (consT (nmT 5) (consT (nmT 6) (nilT)))) (M.pure true) ((consA (binF modG (seqP 5 (biF lenF (one (pk 1))))) (consA (callF [none] (consA (rd 6) (nilA)) [false] m_seats_of) (nilA))).bind tupM))))))))
def m_paper : M O := defM 7 b_paper
def b_need_paper : M Out :=
  seqS (iteM (notB ((biF isiF (two (seqP 3 (M.pure (.val (.ty "list")))))).bind asB)) (M.stuck) (M.pure .nx))
    ((enI (rd 3)).bind fun ds => forL (tupT 2 (consT (nmT 4) (consT (nmT 5) (nilT)))) (seqS (setS 6 (blO (andB ((biF isiF (two (seqP 5 (M.pure (.val (.ty "tuple")))))).bind asB) (andB (cmpF eqC (seq2 (biF lenF (one (pk 5))) (M.pure (.val (.int 2))))) ((callF [none, none, none] (consA (binF idxE (seqP 5 (M.pure (.val (.int 0))))) (consA (M.pure (.val (.int 0))) (consA (binF subG (seq2 (biF lenF (one (pk 1))) (M.pure (.val (.int 1))))) (nilA)))) [false, false, false] m_is_number).bind asB)))))
    (seqS (iteM (orB (notB ((pk 6).bind asB)) (orB (notB ((biF isiF (two (seq2 (binF idxE (seqP 5 (M.pure (.val (.int 1))))) (M.pure (.val (.ty "tuple")))))).bind asB)) (cmpF neC (seq2 (biF lenF (one (binF idxE (seqP 5 (M.pure (.val (.int 1))))))) (biF lenF (one (pk 2))))))) (M.stuck) (M.pure .nx))
    (iteM (notB ((biF allF (one (lcF [7] (seqI (binF idxE (seqP 5 (M.pure (.val (.int 1)))))) (nmT 7) (M.pure true) (callF [none, none] (consA (rd 7) (consA (rd 0) (nilA))) [false, false] m_is_cell)))).bind asB)) (M.stuck) (M.pure .nx)))) ds)
def m_need_paper : M O := defM 8 b_need_paper
def b_shows : M Out :=
  seqS (exprS (callF [none, none, none] (consA (rd 0) (consA (rd 1) (consA (rd 2) (nilA)))) [false, false, false] m_need_all))
    (seqS (exprS (callF [none, none, none, none] (consA (rd 0) (consA (rd 1) (consA (rd 2) (consA (rd 3) (nilA))))) [false, false, false, false] m_need_paper))
    (seqS (setS 4 (dcF [9] (seqI (rd 3)) (nmT 9) (M.pure true) (rd 9) (M.pure (.val (.bl true)))))
    (seqS (iteM (cmpF ninE (seq2 ((consA (M.pure (.val (.int 0))) (consA (callF [none] (consA (rd 2) (nilA)) [false] m_seats_of) (nilA))).bind tupM) (pk 4))) (retS (M.pure (.val (.bl false)))) (M.pure .nx))
    (seqS ((seqI (rd 3)).bind fun ds => forL (tupT 2 (consT (nmT 5) (consT (nmT 6) (nilT)))) (seqS (setS 7 (biF tupF (one (lcF [10, 11, 12] (zipI (consA (rd 6) (consA (rd 2) (nilA)))) (tupT 2 (consT (nmT 10) (consT (tupT 2 (consT (nmT 11) (consT (nmT 12) (nilT)))) (nilT)))) (M.pure true) ((consA (rd 10) (consA (rd 12) (nilA))).bind tupM)))))
    (seqS (setS 8 (callF [none, none, none] (consA (rd 0) (consA (binF idxE (seqP 1 (pk 5))) (consA (rd 7) (nilA)))) [false, false, false] m_moved))
    (iteM (orB (cmpF neC (seq2 (callF [none, none, none] (consA (rd 0) (consA (binF idxE (seqP 1 (pk 5))) (consA (rd 8) (nilA)))) [false, false, false] m_suns_of) ((nilA).bind lstM))) (cmpF ninE (seq2 ((consA (binF modG (seq2 (binF addG (seqP 5 (M.pure (.val (.int 1))))) (biF lenF (one (pk 1))))) (consA (callF [none] (consA (rd 8) (nilA)) [false] m_seats_of) (nilA))).bind tupM) (pk 4)))) (retS (M.pure (.val (.bl false)))) (M.pure .nx)))) ds)
    (retS (M.pure (.val (.bl true))))))))
def m_shows : M O := defM 13 b_shows
end G

set_option Elab.async false
set_option linter.all false
set_option maxRecDepth 100000
set_option maxHeartbeats 4000000
namespace G
open PySem PySem.Spec PyProof.Rows L2 PF
def cv_ShadeError : List (Nat × Bool) := [(10, true)]
def sb_BadCount : List (Nat × Bool) := [(10, false)]
def sb_BadDeed : List (Nat × Bool) := [(10, false)]
def sb_BadFloor : List (Nat × Bool) := [(10, false)]
def sb_BadFolk : List (Nat × Bool) := [(10, false)]
def sb_BadPaper : List (Nat × Bool) := [(10, false)]
def sb_BadRule : List (Nat × Bool) := [(10, false)]
def sb_BadSun : List (Nat × Bool) := [(10, false)]
def sb_BadText : List (Nat × Bool) := [(10, false)]
def sb_BadTold : List (Nat × Bool) := [(10, false)]
def sb_Halted : List (Nat × Bool) := [(10, false)]
def sb_InSun : List (Nat × Bool) := [(10, true)]
def sb_ValueError : List (Nat × Bool) := [(10, true)]
def b__law_cloth : M Out :=
  seqS (par2 1 2 (consA ((consA (M.pure (.val (.int 3))) (consA (M.pure (.val (.int 3))) (consA ((nilA).bind tupM) (consA ((consA (rd 0) (nilA)).bind tupM) (nilA))))).bind tupM) (consA ((consA ((consA (rd 0) (consA (M.pure (.val (.str (PySem.Str.ofString "stay")))) (nilA))).bind tupM) (nilA)).bind tupM) (nilA))))
    (seqS (iteM (orB (notB ((callF [none, none] (consA (callF [none, none, none] (consA (rd 1) (consA (M.pure (.val (.str (PySem.Str.ofString "o")))) (consA (rd 2) (nilA)))) [false, false, false] m_paper) (consA ((consA ((consA (M.pure (.val (.int 0))) (consA ((consA (rd 0) (nilA)).bind tupM) (nilA))).bind tupM) (nilA)).bind lstM) (nilA))) [false, false] (m__law_alike 6)).bind asB)) (cmpF isNC (seq2 (callF [none, none, none, none] (consA (rd 1) (consA (M.pure (.val (.str (PySem.Str.ofString "o")))) (consA (rd 2) (consA ((consA ((consA (M.pure (.val (.int 0))) (consA ((consA (rd 0) (nilA)).bind tupM) (nilA))).bind tupM) (nilA)).bind lstM) (nilA))))) [false, false, false, false] m_shows) (M.pure (.val (.bl true)))))) (retS (M.pure (.val (.bl false)))) (M.pure .nx))
    (seqS (iteM (notB ((callF [none, none] (consA (frzM ((consA (callF [none, none, none] (consA (rd 1) (consA (M.pure (.val (.str (PySem.Str.ofString "osenw")))) (consA (M.pure (.val (.int 0))) (nilA)))) [false, false, false] m_shade) (consA (callF [none, none, none] (consA (rd 1) (consA ((consA (M.pure (.val (.int 3))) (consA (M.pure (.val (.int 3))) (consA ((nilA).bind tupM) (consA ((nilA).bind tupM) (nilA))))).bind tupM) (consA (M.pure (.val (.str (PySem.Str.ofString "o")))) (nilA)))) [false, false, false] m_parted) (nilA))).bind lstM)) (consA (frzM ((consA ((consA (rd 0) (nilA)).bind lstM) (consA ((consA (M.pure (.val (.int 0))) (consA (rd 0) (nilA))).bind tupM) (nilA))).bind lstM)) (nilA))) [false, false] (m__law_alike 6)).bind asB)) (retS (M.pure (.val (.bl false)))) (M.pure .nx))
    (seqS (setS 3 ((consA (M.pure (.val (.int 3))) (consA (M.pure (.val (.int 3))) (consA ((nilA).bind tupM) (consA ((nilA).bind tupM) (nilA))))).bind tupM))
    (seqS (iteM (orB (cmpF neC (seq2 (callF [none, none, none, none] (consA (rd 3) (consA (M.pure (.val (.str (PySem.Str.ofString "o")))) (consA (rd 2) (consA (M.pure (.val (.int 1))) (nilA))))) [false, false, false, false] m_awnings) ((consA (rd 0) (nilA)).bind tupM))) (cmpF isNC (seq2 (callF [none, none, none, none] (consA (rd 3) (consA (M.pure (.val (.str (PySem.Str.ofString "o")))) (consA (rd 2) (consA (M.pure (.val (.int 0))) (nilA))))) [false, false, false, false] m_awnings) (M.pure (.val .non))))) (retS (M.pure (.val (.bl false)))) (M.pure .nx))
    (seqS (setS 4 ((consA (binF modG (seq2 (binF addG (seq2 (binF idxE (seqP 0 (M.pure (.val (.int 0))))) (M.pure (.val (.int 1))))) (M.pure (.val (.int 3))))) (consA (binF idxE (seqP 0 (M.pure (.val (.int 1))))) (nilA))).bind tupM))
    (seqS (setS 5 (callF [none, none, none, none] (consA (rd 3) (consA (M.pure (.val (.str (PySem.Str.ofString "o")))) (consA ((consA ((consA (rd 0) (consA (M.pure (.val (.str (PySem.Str.ofString "stay")))) (nilA))).bind tupM) (consA ((consA (rd 4) (consA (M.pure (.val (.str (PySem.Str.ofString "stay")))) (nilA))).bind tupM) (nilA))).bind tupM) (consA (M.pure (.val (.int 3))) (nilA))))) [false, false, false, false] m_awnings))
    (seqS (iteM (orB (cmpF neC (seqP 5 (biF tupF (one (biF srtF (one ((consA (rd 0) (consA (rd 4) (nilA))).bind lstM))))))) (cmpF isNC (seq2 (callF [none, none, none, none] (consA (rd 3) (consA (M.pure (.val (.str (PySem.Str.ofString "o")))) (consA ((consA ((consA (rd 0) (consA (M.pure (.val (.str (PySem.Str.ofString "stay")))) (nilA))).bind tupM) (consA ((consA (rd 4) (consA (M.pure (.val (.str (PySem.Str.ofString "stay")))) (nilA))).bind tupM) (nilA))).bind tupM) (consA (M.pure (.val (.int 1))) (nilA))))) [false, false, false, false] m_awnings) (M.pure (.val .non))))) (retS (M.pure (.val (.bl false)))) (M.pure .nx))
    (seqS (iteM (orB (notB ((callF [none, none] (consA (callF [none, none, none] (consA (rd 3) (consA (rd 2) (consA ((consA ((consA (rd 0) (nilA)).bind tupM) (nilA)).bind tupM) (nilA)))) [false, false, false] m_suns) (consA ((consA (M.pure (.val (.str (PySem.Str.ofString "e")))) (consA (M.pure (.val (.str (PySem.Str.ofString "n")))) (consA (M.pure (.val (.str (PySem.Str.ofString "o")))) (consA (M.pure (.val (.str (PySem.Str.ofString "s")))) (consA (M.pure (.val (.str (PySem.Str.ofString "w")))) (nilA)))))).bind lstM) (nilA))) [false, false] (m__law_alike 6)).bind asB)) (cmpF neC (seq2 (callF [none, none, none] (consA (rd 3) (consA (rd 2) (consA ((consA ((consA (rd 4) (nilA)).bind tupM) (nilA)).bind tupM) (nilA)))) [false, false, false] m_suns) ((nilA).bind lstM)))) (retS (M.pure (.val (.bl false)))) (M.pure .nx))
    (seqS (setS 6 ((consA (M.pure (.val .non)) (consA ((consA (M.pure (.val (.int 0))) (consA (M.pure (.val (.int 2))) (consA ((consA ((consA (rd 0) (nilA)).bind tupM) (consA ((consA (rd 0) (nilA)).bind tupM) (nilA))).bind lstM) (nilA)))).bind tupM) (nilA))).bind lstM))
    (retS (callF [none, none] (consA (frzM ((consA (callF [none, none, none, none] (consA (rd 3) (consA (M.pure (.val (.str (PySem.Str.ofString "o")))) (consA (M.pure (.val (.str (PySem.Str.ofString "near")))) (consA (M.pure (.val (.str (PySem.Str.ofString "first")))) (nilA))))) [false, false, false, false] m_parting) (consA (callF [none, none, none] (consA (rd 3) (consA (M.pure (.val (.str (PySem.Str.ofString "on")))) (consA (rd 2) (nilA)))) [false, false, false] m_course) (nilA))).bind lstM)) (consA (rd 6) (nilA))) [false, false] (m__law_alike 6))))))))))))
def m__law_cloth : M O := defM 7 b__law_cloth
abbrev n__law_word : Nat := 4
abbrev i__law_word : Nat := 1
def h__law_word : M Out :=
  seqS (setS 2 ((consA (isX (covT sb_BadSun) (rd 1)) (consA (isX (covT sb_BadFolk) (rd 1)) (consA (isX (covT sb_BadTold) (rd 1)) (consA (isX (covT sb_BadPaper) (rd 1)) (nilA))))).bind lstM))
    (seqS (setS 2 (binF addG (seqP 2 ((consA (isX (covT sb_BadDeed) (rd 1)) (consA (isX (covT sb_BadFloor) (rd 1)) (consA (isX (covT sb_Halted) (rd 1)) (nilA)))).bind lstM))))
    (seqS (setS 2 (binF addG (seqP 2 ((consA (isX (covT sb_BadText) (rd 1)) (consA (isX (covT sb_InSun) (rd 1)) (consA (isX (covT sb_BadCount) (rd 1)) (consA (isX (covT sb_BadRule) (rd 1)) (nilA))))).bind lstM))))
    (seqS (iteM (orB (cmpF neC (seq2 (lm1 2 cntL (M.pure (.val (.bl true)))) (M.pure (.val (.int 1))))) (notB ((isX (covT sb_ValueError) (rd 1)).bind asB))) (retS ((consA (M.pure (.val (.str (PySem.Str.ofString "other")))) (nilA)).bind tupM)) (M.pure .nx))
    (seqS (setS 3 (lm1 2 idxL (M.pure (.val (.bl true)))))
    (seqS (iteM (cmpF ltC (seqP 3 (M.pure (.val (.int 5))))) (retS ((consA (binF idxE (seq2 ((consA (M.pure (.val (.str (PySem.Str.ofString "sun")))) (consA (M.pure (.val (.str (PySem.Str.ofString "folk")))) (consA (M.pure (.val (.str (PySem.Str.ofString "told")))) (consA (M.pure (.val (.str (PySem.Str.ofString "paper")))) (consA (M.pure (.val (.str (PySem.Str.ofString "deed")))) (nilA)))))).bind lstM) (pk 3))) (consA (fldX (PySem.Str.ofString "number") (rd 1)) (nilA))).bind tupM)) (M.pure .nx))
    (seqS (iteM (cmpF ltC (seqP 3 (M.pure (.val (.int 7))))) (retS (iteM (cmpF eqC (seqP 3 (M.pure (.val (.int 5))))) ((consA (M.pure (.val (.str (PySem.Str.ofString "floor")))) (consA (fldX (PySem.Str.ofString "part") (rd 1)) (consA (fldX (PySem.Str.ofString "number") (rd 1)) (nilA)))).bind tupM) ((consA (M.pure (.val (.str (PySem.Str.ofString "halted")))) (consA (fldX (PySem.Str.ofString "number") (rd 1)) (consA (fldX (PySem.Str.ofString "done") (rd 1)) (nilA)))).bind tupM))) (M.pure .nx))
    (seqS (iteM (cmpF ltC (seqP 3 (M.pure (.val (.int 9))))) (retS (iteM (cmpF eqC (seqP 3 (M.pure (.val (.int 7))))) ((consA (M.pure (.val (.str (PySem.Str.ofString "text")))) (consA (fldX (PySem.Str.ofString "row") (rd 1)) (nilA))).bind tupM) ((consA (M.pure (.val (.str (PySem.Str.ofString "insun")))) (consA (fldX (PySem.Str.ofString "beat") (rd 1)) (nilA))).bind tupM))) (M.pure .nx))
    (retS ((consA (binF idxE (seq2 ((consA (M.pure (.val (.str (PySem.Str.ofString "count")))) (consA (M.pure (.val (.str (PySem.Str.ofString "rule")))) (nilA))).bind lstM) (binF subG (seqP 3 (M.pure (.val (.int 9))))))) (nilA)).bind tupM)))))))))
def m__law_word (m : M O) : M O := wordF n__law_word i__law_word (covT cv_ShadeError) h__law_word m
def b__law_lane : M Out :=
  seqS (par2 3 4 (consA ((consA (M.pure (.val (.int 1))) (consA (rd 0) (consA ((consA ((consA (M.pure (.val (.int 0))) (consA (binF divG (seqP 0 (M.pure (.val (.int 2))))) (consA (rd 1) (nilA)))).bind tupM) (nilA)).bind tupM) (consA ((nilA).bind tupM) (nilA))))).bind tupM) (consA (binF divG (seqP 0 (M.pure (.val (.int 2))))) (nilA))))
    (seqS (setS 5 (lcF [11] (rngI2 (two (seq2 (biF max2F (two (seq2 (M.pure (.val (.int 0))) (binF subG (seqP 4 (pk 1)))))) (pk 4)))) (nmT 11) (M.pure true) ((consA (M.pure (.val (.int 0))) (consA (rd 11) (nilA))).bind tupM)))
    (seqS (setS 6 (lcF [11] (rngI2 (two (seq2 (binF addG (seqP 4 (M.pure (.val (.int 1))))) (biF min2F (two (seqP 0 (binF addG (seq2 (binF addG (seqP 4 (pk 1))) (M.pure (.val (.int 1))))))))))) (nmT 11) (M.pure true) ((consA (M.pure (.val (.int 0))) (consA (rd 11) (nilA))).bind tupM)))
    (seqS (setS 7 ((consA (callF [none, none, none] (consA (rd 3) (consA (M.pure (.val (.str (PySem.Str.ofString "weno")))) (consA (M.pure (.val (.int 0))) (nilA)))) [false, false, false] m_shade) (consA (callF [none, none, none] (consA (rd 3) (consA (M.pure (.val (.str (PySem.Str.ofString "weno")))) (consA (M.pure (.val (.int 1))) (nilA)))) [false, false, false] m_shade) (consA (callF [none, none, none] (consA (rd 3) (consA (M.pure (.val (.str (PySem.Str.ofString "weno")))) (consA (M.pure (.val (.int 2))) (nilA)))) [false, false, false] m_shade) (consA (callF [none, none, none] (consA (rd 3) (consA (M.pure (.val (.str (PySem.Str.ofString "weno")))) (consA (M.pure (.val (.int 3))) (nilA)))) [false, false, false] m_shade) (nilA))))).bind lstM))
    (seqS (iteM (notB ((callF [none, none] (consA (rd 7) (consA (frzM ((consA (rd 5) (consA (rd 6) (consA ((nilA).bind lstM) (consA ((nilA).bind lstM) (nilA))))).bind lstM)) (nilA))) [false, false] (m__law_alike 6)).bind asB)) (retS (M.pure (.val (.bl false)))) (M.pure .nx))
    (seqS (setS 8 ((consA ((consA ((consA (M.pure (.val (.int 0))) (consA (rd 2) (nilA))).bind tupM) (consA (M.pure (.val (.str (PySem.Str.ofString "near")))) (nilA))).bind tupM) (nilA)).bind tupM))
    (seqS (iteM (orB (cmpF eqC (seqP 2 (pk 4))) (notB ((callF [none, none] (consA (callF [none, none, none, none] (consA (rd 3) (consA (M.pure (.val (.str (PySem.Str.ofString "no")))) (consA (rd 8) (consA (binF powG (seq2 (M.pure (.val (.int 10))) (M.pure (.val (.int 18))))) (nilA))))) [false, false, false, false] m_seated) (consA ((consA ((consA (M.pure (.val (.int 0))) (consA (rd 2) (nilA))).bind tupM) (nilA)).bind tupM) (nilA))) [false, false] (m__law_alike 6)).bind asB))) (retS (blO (cmpF eqC (seqP 2 (pk 4))))) (M.pure .nx))
    (seqS (setS 9 ((consA ((consA ((consA (M.pure (.val (.int 0))) (consA (rd 2) (nilA))).bind tupM) (nilA)).bind tupM) (consA ((consA (binF idxE (seqP 5 (M.pure (.val (.int (-1)))))) (nilA)).bind tupM) (consA ((consA (binF idxE (seqP 6 (M.pure (.val (.int 0))))) (nilA)).bind tupM) (nilA)))).bind lstM))
    (seqS (iteM (cmpF ltC (seqP 2 (pk 4))) (setS 9 ((consA ((consA ((consA (M.pure (.val (.int 0))) (consA (rd 2) (nilA))).bind tupM) (nilA)).bind tupM) (consA ((consA (iteM (cmpF inE (seq2 ((consA (M.pure (.val (.int 0))) (consA (rd 2) (nilA))).bind tupM) (pk 5))) ((consA (M.pure (.val (.int 0))) (consA (rd 2) (nilA))).bind tupM) (binF idxE (seqP 5 (M.pure (.val (.int 0)))))) (nilA)).bind tupM) (consA ((consA (binF idxE (seqP 6 (M.pure (.val (.int 0))))) (nilA)).bind tupM) (nilA)))).bind lstM)) (M.pure .nx))
    (seqS (setS 10 (lcF [11] (rngI1 (one (M.pure (.val (.int 3))))) (nmT 11) (M.pure true) (callF [none, none, none, none] (consA (rd 3) (consA (M.pure (.val (.str (PySem.Str.ofString "we")))) (consA (rd 8) (consA (rd 11) (nilA))))) [false, false, false, false] m_seated)))
    (seqS (iteM (orB (notB ((callF [none, none] (consA (rd 10) (consA (rd 9) (nilA))) [false, false] (m__law_alike 6)).bind asB)) (cmpF neC (seq2 (callF [none, none, none] (consA (rd 3) (consA (M.pure (.val (.str (PySem.Str.ofString "we")))) (consA (rd 8) (nilA)))) [false, false, false] m_restless) ((consA (M.pure (.val (.int 0))) (nilA)).bind lstM)))) (retS (M.pure (.val (.bl false)))) (M.pure .nx))
    (seqS (iteM (orB (notB ((callF [none, none] (consA (binF idxE (seq2 (binF idxE (seq2 (callF [none, none, none] (consA (rd 3) (consA (M.pure (.val (.str (PySem.Str.ofString "we")))) (consA (rd 8) (nilA)))) [false, false, false] m_scorched) (M.pure (.val (.int 0))))) (M.pure (.val (.int 1))))) (consA (M.pure (.val (.int 0))) (nilA))) [false, false] (m__law_alike 6)).bind asB)) (notB ((callF [none, none] (consA (callF [none, none, none] (consA (rd 3) (consA (M.pure (.val (.str (PySem.Str.ofString "o")))) (consA (rd 8) (nilA)))) [false, false, false] m_scorched) (consA ((consA ((consA (M.pure (.val (.int 0))) (consA (M.pure (.val (.int 1))) (nilA))).bind tupM) (nilA)).bind lstM) (nilA))) [false, false] (m__law_alike 6)).bind asB))) (retS (M.pure (.val (.bl false)))) (M.pure .nx))
    (retS (blO (cmpF eqC (seq2 (m__law_word (callF [none, none, none] (consA (rd 3) (consA (M.pure (.val (.str (PySem.Str.ofString "o")))) (consA (rd 8) (nilA)))) [false, false, false] m_paper)) ((consA (M.pure (.val (.str (PySem.Str.ofString "insun")))) (consA (M.pure (.val (.int 0))) (nilA))).bind tupM))))))))))))))))
def m__law_lane : M O := defM 12 b__law_lane
def b_law : M Out :=
  seqS (setS 1 ((consA (rd 0) (consA (M.pure (.val (.int 0))) (consA (M.pure (.val (.int 0))) (consA (M.pure (.val (.int 0))) (nilA))))).bind lstM))
    (seqS (setS 2 (binF addG (seq2 (M.pure (.val (.int 3))) (callF [some 1, none] (refA 1 (consA (M.pure (.val (.int 3))) (nilA))) [true, false] m__law_taken))))
    (seqS (iteM (notB ((callF [none, none, none] (consA (rd 2) (consA (binF addG (seq2 (M.pure (.val (.int 1))) (callF [some 1, none] (refA 1 (consA (M.pure (.val (.int 4))) (nilA))) [true, false] m__law_taken))) (consA (callF [some 1, none] (refA 1 (consA (rd 2) (nilA))) [true, false] m__law_taken) (nilA)))) [false, false, false] m__law_lane).bind asB)) (retS (M.pure (.val (.bl false)))) (M.pure .nx))
    (seqS (setS 3 ((consA (M.pure (.val (.int 2))) (consA (M.pure (.val (.int 3))) (consA ((nilA).bind tupM) (consA ((consA ((consA (M.pure (.val (.int 0))) (consA (M.pure (.val (.int 0))) (nilA))).bind tupM) (consA ((consA (M.pure (.val (.int 1))) (consA (M.pure (.val (.int 2))) (nilA))).bind tupM) (nilA))).bind tupM) (nilA))))).bind tupM))
    (seqS (iteM (notB ((callF [none, none] (consA (callF [none, none, none, none] (consA (rd 3) (consA (M.pure (.val (.str (PySem.Str.ofString "o")))) (consA (M.pure (.val (.str (PySem.Str.ofString "near")))) (consA (M.pure (.val (.str (PySem.Str.ofString "first")))) (nilA))))) [false, false, false, false] m_parting) (consA ((consA (M.pure (.val (.int 1))) (consA ((consA (M.pure (.val (.int 0))) (consA (M.pure (.val (.int 2))) (nilA))).bind tupM) (nilA))).bind tupM) (nilA))) [false, false] (m__law_alike 6)).bind asB)) (retS (M.pure (.val (.bl false)))) (M.pure .nx))
    (seqS (iteM (notB ((callF [none, none] (consA (callF [none, none, none, none] (consA (rd 3) (consA (M.pure (.val (.str (PySem.Str.ofString "o")))) (consA (M.pure (.val (.str (PySem.Str.ofString "near")))) (consA (M.pure (.val (.str (PySem.Str.ofString "stay")))) (nilA))))) [false, false, false, false] m_parting) (consA ((consA (M.pure (.val (.int 1))) (consA ((consA (M.pure (.val (.int 0))) (consA (M.pure (.val (.int 1))) (nilA))).bind tupM) (nilA))).bind tupM) (nilA))) [false, false] (m__law_alike 6)).bind asB)) (retS (M.pure (.val (.bl false)))) (M.pure .nx))
    (seqS (setS 4 ((consA (callF [some 1, none] (refA 1 (consA (M.pure (.val (.int 3))) (nilA))) [true, false] m__law_taken) (consA (callF [some 1, none] (refA 1 (consA (M.pure (.val (.int 3))) (nilA))) [true, false] m__law_taken) (nilA))).bind tupM))
    (seqS (setS 5 (biF tupF (one (lcF [6] (rngI1 (one (M.pure (.val (.int 9))))) (nmT 6) (cmpF neC (seq2 ((consA (binF divG (seqP 6 (M.pure (.val (.int 3))))) (consA (binF modG (seqP 6 (M.pure (.val (.int 3))))) (nilA))).bind tupM) (pk 4))) ((consA (binF divG (seqP 6 (M.pure (.val (.int 3))))) (consA (binF modG (seqP 6 (M.pure (.val (.int 3))))) (nilA))).bind tupM)))))
    (seqS (iteM (cmpF neC (seq2 (callF [none, none, none, none] (consA ((consA (M.pure (.val (.int 3))) (consA (M.pure (.val (.int 3))) (consA ((nilA).bind tupM) (consA (rd 5) (nilA))))).bind tupM) (consA (M.pure (.val (.str (PySem.Str.ofString "o")))) (consA ((consA ((consA (rd 4) (consA (M.pure (.val (.str (PySem.Str.ofString "stay")))) (nilA))).bind tupM) (nilA)).bind tupM) (consA (M.pure (.val (.int 1))) (nilA))))) [false, false, false, false] m_awnings) ((consA (rd 4) (nilA)).bind tupM))) (retS (M.pure (.val (.bl false)))) (M.pure .nx))
    (retS (callF [none] (consA (rd 4) (nilA)) [false] m__law_cloth))))))))))
def m_law : M O := defM 7 b_law
end G

set_option Elab.async false
set_option linter.all false
set_option maxRecDepth 100000
set_option maxHeartbeats 4000000
namespace G
open PySem PySem.Spec PyProof.Rows L2 PF
theorem hu_room {k : Nat} {A : Around} (h : Room k A) : A.units + 65 < cLine := by have := h.un; omega
def top (i : Nat) : Stmt := PySem.Challenge.pw_shadeseats_k16_known_floors.main.body.getD i (.Pass ⟨0, 0, 0, 0⟩)
def bodyOf : Stmt → List Stmt
  | .ClassDef _ _ _ b _ _ _ _ _ _ _ => b
  | _ => []
def topM (i j : Nat) : Stmt := (bodyOf (top i)).getD j (.Pass ⟨0, 0, 0, 0⟩)
abbrev FnQ (K : PySem.W.Frag) (x q : Str) (st : Stmt) (f : Addr) (fd : FuncData) : Prop := FunD K x q (defArgs st) (defBody st) (defScope st) [] [] f fd
structure Env (P : Program) (w : World) (K : PySem.W.Frag) (mg : Str → Option Value) (ca : Ca) : Prop where
  zip : mg (PySem.Str.ofString "zip") = none
  ValueError : mg (PySem.Str.ofString "ValueError") = none
  int : mg (PySem.Str.ofString "int") = none
  bool : mg (PySem.Str.ofString "bool") = none
  str : mg (PySem.Str.ofString "str") = none
  tuple : mg (PySem.Str.ofString "tuple") = none
  list : mg (PySem.Str.ofString "list") = none
  len : mg (PySem.Str.ofString "len") = none
  isinstance : mg (PySem.Str.ofString "isinstance") = none
  sorted : mg (PySem.Str.ofString "sorted") = none
  min : mg (PySem.Str.ofString "min") = none
  max : mg (PySem.Str.ofString "max") = none
  range : mg (PySem.Str.ofString "range") = none
  enumerate : mg (PySem.Str.ofString "enumerate") = none
  abs : mg (PySem.Str.ofString "abs") = none
  all : mg (PySem.Str.ofString "all") = none
  any : mg (PySem.Str.ofString "any") = none
  MOST_SIDE : ∃ t, mg (PySem.Str.ofString "MOST_SIDE") = some (.int 5 t)
  MOST_POSTS : ∃ t, mg (PySem.Str.ofString "MOST_POSTS") = some (.int 4 t)
  MOST_HIGH : ∃ t, mg (PySem.Str.ofString "MOST_HIGH") = some (.int 4 t)
  MOST_AWNINGS : ∃ t, mg (PySem.Str.ofString "MOST_AWNINGS") = some (.int 8 t)
  MOST_BEATS : ∃ t, mg (PySem.Str.ofString "MOST_BEATS") = some (.int 6 t)
  MOST_FOLK : ∃ t, mg (PySem.Str.ofString "MOST_FOLK") = some (.int 4 t)
  MOST_FAR : ∃ t, mg (PySem.Str.ofString "MOST_FAR") = some (.int 1000000000000000000 t)
  MOST_MORE : ∃ t, mg (PySem.Str.ofString "MOST_MORE") = some (.int 3 t)
  OVERHEAD : ∃ t, mg (PySem.Str.ofString "OVERHEAD") = some (.str (PySem.Str.ofString "o") t)
  STEPS : ∃ u v, mg (PySem.Str.ofString "STEPS") = some u ∧ RelV v u ∧ ∀ F, RepV ⟨P, w, K, ca⟩ F d_STEPS v
  STEPSk : ∃ a es n, mg (PySem.Str.ofString "STEPS") = some (.ref a) ∧ KDict K w a es n ∧ es.toList.map keyS = [(PySem.Str.ofString "e"), (PySem.Str.ofString "n"), (PySem.Str.ofString "o"), (PySem.Str.ofString "s"), (PySem.Str.ofString "w")].map some
  RULES : ∃ u v, mg (PySem.Str.ofString "RULES") = some u ∧ RelV v u ∧ ∀ F, RepV ⟨P, w, K, ca⟩ F d_RULES v
  cls0 : Cls K (ca 0)
  na_rows : NoAttr K (ca 0) (PySem.Str.ofString "rows")
  na_tail : NoAttr K (ca 0) (PySem.Str.ofString "tail")
  na_turn : NoAttr K (ca 0) (PySem.Str.ofString "turn")
  xa0 : ca.xa = none
  gx_ShadeError : mg (PySem.Str.ofString "ShadeError") = some (.ref (ca 2))
  gx_BadFloor : mg (PySem.Str.ofString "BadFloor") = some (.ref (ca 3))
  gx_BadSun : mg (PySem.Str.ofString "BadSun") = some (.ref (ca 4))
  gx_BadFolk : mg (PySem.Str.ofString "BadFolk") = some (.ref (ca 5))
  gx_BadCount : mg (PySem.Str.ofString "BadCount") = some (.ref (ca 6))
  gx_BadRule : mg (PySem.Str.ofString "BadRule") = some (.ref (ca 7))
  gx_BadTold : mg (PySem.Str.ofString "BadTold") = some (.ref (ca 8))
  gx_BadPaper : mg (PySem.Str.ofString "BadPaper") = some (.ref (ca 9))
  gx_InSun : mg (PySem.Str.ofString "InSun") = some (.ref (ca 10))
  gx_BadDeed : mg (PySem.Str.ofString "BadDeed") = some (.ref (ca 11))
  gx_Halted : mg (PySem.Str.ofString "Halted") = some (.ref (ca 12))
  gx_BadText : mg (PySem.Str.ofString "BadText") = some (.ref (ca 13))
  sup : SupI K (ca 2)
  cov_ShadeError : ∀ k b, covT cv_ShadeError k = some b → PySem.W.exmOne K (.ref (ca k)) (.ref (ca 2)) = some b
  xc_ShadeError : ∀ k b, covT cv_ShadeError k = some b → XcC K (ca k) ∧ ∀ f ∈ [((PySem.Str.ofString "beat") : Str), ((PySem.Str.ofString "done") : Str), ((PySem.Str.ofString "number") : Str), ((PySem.Str.ofString "part") : Str), ((PySem.Str.ofString "row") : Str)], PySem.W.findIn K (.ref (ca k)) f = some none
  sub_BadCount : ∀ k b, covT sb_BadCount k = some b → PySem.W.kitOne K (.ref (ca k)) (.ref (ca 6)) = some b
  sub_BadDeed : ∀ k b, covT sb_BadDeed k = some b → PySem.W.kitOne K (.ref (ca k)) (.ref (ca 11)) = some b
  sub_BadFloor : ∀ k b, covT sb_BadFloor k = some b → PySem.W.kitOne K (.ref (ca k)) (.ref (ca 3)) = some b
  sub_BadFolk : ∀ k b, covT sb_BadFolk k = some b → PySem.W.kitOne K (.ref (ca k)) (.ref (ca 5)) = some b
  sub_BadPaper : ∀ k b, covT sb_BadPaper k = some b → PySem.W.kitOne K (.ref (ca k)) (.ref (ca 9)) = some b
  sub_BadRule : ∀ k b, covT sb_BadRule k = some b → PySem.W.kitOne K (.ref (ca k)) (.ref (ca 7)) = some b
  sub_BadSun : ∀ k b, covT sb_BadSun k = some b → PySem.W.kitOne K (.ref (ca k)) (.ref (ca 4)) = some b
  sub_BadText : ∀ k b, covT sb_BadText k = some b → PySem.W.kitOne K (.ref (ca k)) (.ref (ca 13)) = some b
  sub_BadTold : ∀ k b, covT sb_BadTold k = some b → PySem.W.kitOne K (.ref (ca k)) (.ref (ca 8)) = some b
  sub_Halted : ∀ k b, covT sb_Halted k = some b → PySem.W.kitOne K (.ref (ca k)) (.ref (ca 12)) = some b
  sub_InSun : ∀ k b, covT sb_InSun k = some b → PySem.W.kitOne K (.ref (ca k)) (.ref (ca 10)) = some b
  sub_ValueError : ∀ k b, covT sb_ValueError k = some b → PySem.W.kitOne K (.ref (ca k)) (.type "ValueError") = some b
abbrev x__law_alike : Stmt := top 62
abbrev x_all_cells : Stmt := top 31
abbrev x_chosen : Stmt := top 55
abbrev x_far_from : Stmt := top 37
abbrev x_seat_for : Stmt := top 38
abbrev x_shaded : Stmt := top 32
abbrev x_moved : Stmt := top 39
abbrev x_Course_init : Stmt := topM 40 0
abbrev x_Course_at : Stmt := topM 40 1
abbrev x_suns_of : Stmt := top 46
abbrev x_first_in_sun : Stmt := top 48
abbrev x_is_number : Stmt := top 23
abbrev x_is_cell : Stmt := top 25
abbrev x_is_post : Stmt := top 26
abbrev x_need_floor : Stmt := top 27
abbrev x_need_folk : Stmt := top 30
abbrev x_need_sun : Stmt := top 28
abbrev x_need_all : Stmt := top 41
abbrev x_need_count : Stmt := top 24
abbrev x_awnings : Stmt := top 56
abbrev x_seats_of : Stmt := top 42
abbrev x_course : Stmt := top 44
abbrev x_paper : Stmt := top 57
abbrev x_parted : Stmt := top 34
abbrev x_free_cells : Stmt := top 53
abbrev x_need_rule : Stmt := top 29
abbrev x_parting : Stmt := top 54
abbrev x_shade : Stmt := top 33
abbrev x_need_paper : Stmt := top 58
abbrev x_shows : Stmt := top 59
abbrev x_need_told : Stmt := top 51
abbrev x_suns : Stmt := top 52
abbrev x__law_cloth : Stmt := top 65
abbrev x__law_word : Stmt := top 63
abbrev x_restless : Stmt := top 45
abbrev x_scorched : Stmt := top 47
abbrev x_seated : Stmt := top 43
abbrev x__law_lane : Stmt := top 64
abbrev x__law_taken : Stmt := top 61
abbrev x_law : Stmt := top 66
abbrev x_InSun_init : Stmt := topM 9 0
end G

set_option Elab.async false
set_option linter.all false
set_option maxRecDepth 100000
set_option maxHeartbeats 0
namespace G
open PySem PySem.Spec PyProof.Rows L2 PF
def dd__law_alike : He.DefD := ⟨((PySem.Str.ofString "_law_alike"), none), (PySem.Str.ofString "_law_alike"), (PySem.Str.ofString "_law_alike"), defArgs x__law_alike, defBody x__law_alike, defScope x__law_alike, [], []⟩
def dd_all_cells : He.DefD := ⟨((PySem.Str.ofString "all_cells"), none), (PySem.Str.ofString "all_cells"), (PySem.Str.ofString "all_cells"), defArgs x_all_cells, defBody x_all_cells, defScope x_all_cells, [], []⟩
def dd_chosen : He.DefD := ⟨((PySem.Str.ofString "chosen"), none), (PySem.Str.ofString "chosen"), (PySem.Str.ofString "chosen"), defArgs x_chosen, defBody x_chosen, defScope x_chosen, [], []⟩
def dd_far_from : He.DefD := ⟨((PySem.Str.ofString "far_from"), none), (PySem.Str.ofString "far_from"), (PySem.Str.ofString "far_from"), defArgs x_far_from, defBody x_far_from, defScope x_far_from, [], []⟩
def dd_seat_for : He.DefD := ⟨((PySem.Str.ofString "seat_for"), none), (PySem.Str.ofString "seat_for"), (PySem.Str.ofString "seat_for"), defArgs x_seat_for, defBody x_seat_for, defScope x_seat_for, [], []⟩
def dd_shaded : He.DefD := ⟨((PySem.Str.ofString "shaded"), none), (PySem.Str.ofString "shaded"), (PySem.Str.ofString "shaded"), defArgs x_shaded, defBody x_shaded, defScope x_shaded, [], []⟩
def dd_moved : He.DefD := ⟨((PySem.Str.ofString "moved"), none), (PySem.Str.ofString "moved"), (PySem.Str.ofString "moved"), defArgs x_moved, defBody x_moved, defScope x_moved, [], []⟩
def dd_Course_init : He.DefD := ⟨((PySem.Str.ofString "Course"), some (PySem.Str.ofString "__init__")), (PySem.Str.ofString "__init__"), (PySem.Str.ofString "Course.__init__"), defArgs x_Course_init, defBody x_Course_init, defScope x_Course_init, [], []⟩
def dd_Course_at : He.DefD := ⟨((PySem.Str.ofString "Course"), some (PySem.Str.ofString "at")), (PySem.Str.ofString "at"), (PySem.Str.ofString "Course.at"), defArgs x_Course_at, defBody x_Course_at, defScope x_Course_at, [], []⟩
def dd_suns_of : He.DefD := ⟨((PySem.Str.ofString "suns_of"), none), (PySem.Str.ofString "suns_of"), (PySem.Str.ofString "suns_of"), defArgs x_suns_of, defBody x_suns_of, defScope x_suns_of, [], []⟩
def dd_first_in_sun : He.DefD := ⟨((PySem.Str.ofString "first_in_sun"), none), (PySem.Str.ofString "first_in_sun"), (PySem.Str.ofString "first_in_sun"), defArgs x_first_in_sun, defBody x_first_in_sun, defScope x_first_in_sun, [], []⟩
def dd_is_number : He.DefD := ⟨((PySem.Str.ofString "is_number"), none), (PySem.Str.ofString "is_number"), (PySem.Str.ofString "is_number"), defArgs x_is_number, defBody x_is_number, defScope x_is_number, [], []⟩
def dd_is_cell : He.DefD := ⟨((PySem.Str.ofString "is_cell"), none), (PySem.Str.ofString "is_cell"), (PySem.Str.ofString "is_cell"), defArgs x_is_cell, defBody x_is_cell, defScope x_is_cell, [], []⟩
def dd_is_post : He.DefD := ⟨((PySem.Str.ofString "is_post"), none), (PySem.Str.ofString "is_post"), (PySem.Str.ofString "is_post"), defArgs x_is_post, defBody x_is_post, defScope x_is_post, [], []⟩
def dd_need_floor : He.DefD := ⟨((PySem.Str.ofString "need_floor"), none), (PySem.Str.ofString "need_floor"), (PySem.Str.ofString "need_floor"), defArgs x_need_floor, defBody x_need_floor, defScope x_need_floor, [], []⟩
def dd_need_folk : He.DefD := ⟨((PySem.Str.ofString "need_folk"), none), (PySem.Str.ofString "need_folk"), (PySem.Str.ofString "need_folk"), defArgs x_need_folk, defBody x_need_folk, defScope x_need_folk, [], []⟩
def dd_need_sun : He.DefD := ⟨((PySem.Str.ofString "need_sun"), none), (PySem.Str.ofString "need_sun"), (PySem.Str.ofString "need_sun"), defArgs x_need_sun, defBody x_need_sun, defScope x_need_sun, [], []⟩
def dd_need_all : He.DefD := ⟨((PySem.Str.ofString "need_all"), none), (PySem.Str.ofString "need_all"), (PySem.Str.ofString "need_all"), defArgs x_need_all, defBody x_need_all, defScope x_need_all, [], []⟩
def dd_need_count : He.DefD := ⟨((PySem.Str.ofString "need_count"), none), (PySem.Str.ofString "need_count"), (PySem.Str.ofString "need_count"), defArgs x_need_count, defBody x_need_count, defScope x_need_count, [], []⟩
def dd_awnings : He.DefD := ⟨((PySem.Str.ofString "awnings"), none), (PySem.Str.ofString "awnings"), (PySem.Str.ofString "awnings"), defArgs x_awnings, defBody x_awnings, defScope x_awnings, [], []⟩
def dd_seats_of : He.DefD := ⟨((PySem.Str.ofString "seats_of"), none), (PySem.Str.ofString "seats_of"), (PySem.Str.ofString "seats_of"), defArgs x_seats_of, defBody x_seats_of, defScope x_seats_of, [], []⟩
def dd_course : He.DefD := ⟨((PySem.Str.ofString "course"), none), (PySem.Str.ofString "course"), (PySem.Str.ofString "course"), defArgs x_course, defBody x_course, defScope x_course, [], []⟩
def dd_paper : He.DefD := ⟨((PySem.Str.ofString "paper"), none), (PySem.Str.ofString "paper"), (PySem.Str.ofString "paper"), defArgs x_paper, defBody x_paper, defScope x_paper, [], []⟩
def dd_parted : He.DefD := ⟨((PySem.Str.ofString "parted"), none), (PySem.Str.ofString "parted"), (PySem.Str.ofString "parted"), defArgs x_parted, defBody x_parted, defScope x_parted, [], []⟩
def dd_free_cells : He.DefD := ⟨((PySem.Str.ofString "free_cells"), none), (PySem.Str.ofString "free_cells"), (PySem.Str.ofString "free_cells"), defArgs x_free_cells, defBody x_free_cells, defScope x_free_cells, [], []⟩
def dd_need_rule : He.DefD := ⟨((PySem.Str.ofString "need_rule"), none), (PySem.Str.ofString "need_rule"), (PySem.Str.ofString "need_rule"), defArgs x_need_rule, defBody x_need_rule, defScope x_need_rule, [], []⟩
def dd_parting : He.DefD := ⟨((PySem.Str.ofString "parting"), none), (PySem.Str.ofString "parting"), (PySem.Str.ofString "parting"), defArgs x_parting, defBody x_parting, defScope x_parting, [], []⟩
def dd_shade : He.DefD := ⟨((PySem.Str.ofString "shade"), none), (PySem.Str.ofString "shade"), (PySem.Str.ofString "shade"), defArgs x_shade, defBody x_shade, defScope x_shade, [], []⟩
def dd_need_paper : He.DefD := ⟨((PySem.Str.ofString "need_paper"), none), (PySem.Str.ofString "need_paper"), (PySem.Str.ofString "need_paper"), defArgs x_need_paper, defBody x_need_paper, defScope x_need_paper, [], []⟩
def dd_shows : He.DefD := ⟨((PySem.Str.ofString "shows"), none), (PySem.Str.ofString "shows"), (PySem.Str.ofString "shows"), defArgs x_shows, defBody x_shows, defScope x_shows, [], []⟩
def dd_need_told : He.DefD := ⟨((PySem.Str.ofString "need_told"), none), (PySem.Str.ofString "need_told"), (PySem.Str.ofString "need_told"), defArgs x_need_told, defBody x_need_told, defScope x_need_told, [], []⟩
def dd_suns : He.DefD := ⟨((PySem.Str.ofString "suns"), none), (PySem.Str.ofString "suns"), (PySem.Str.ofString "suns"), defArgs x_suns, defBody x_suns, defScope x_suns, [], []⟩
def dd__law_cloth : He.DefD := ⟨((PySem.Str.ofString "_law_cloth"), none), (PySem.Str.ofString "_law_cloth"), (PySem.Str.ofString "_law_cloth"), defArgs x__law_cloth, defBody x__law_cloth, defScope x__law_cloth, [], []⟩
def dd__law_word : He.DefD := ⟨((PySem.Str.ofString "_law_word"), none), (PySem.Str.ofString "_law_word"), (PySem.Str.ofString "_law_word"), defArgs x__law_word, defBody x__law_word, defScope x__law_word, [], []⟩
def dd_restless : He.DefD := ⟨((PySem.Str.ofString "restless"), none), (PySem.Str.ofString "restless"), (PySem.Str.ofString "restless"), defArgs x_restless, defBody x_restless, defScope x_restless, [], []⟩
def dd_scorched : He.DefD := ⟨((PySem.Str.ofString "scorched"), none), (PySem.Str.ofString "scorched"), (PySem.Str.ofString "scorched"), defArgs x_scorched, defBody x_scorched, defScope x_scorched, [], []⟩
def dd_seated : He.DefD := ⟨((PySem.Str.ofString "seated"), none), (PySem.Str.ofString "seated"), (PySem.Str.ofString "seated"), defArgs x_seated, defBody x_seated, defScope x_seated, [], []⟩
def dd__law_lane : He.DefD := ⟨((PySem.Str.ofString "_law_lane"), none), (PySem.Str.ofString "_law_lane"), (PySem.Str.ofString "_law_lane"), defArgs x__law_lane, defBody x__law_lane, defScope x__law_lane, [], []⟩
def dd__law_taken : He.DefD := ⟨((PySem.Str.ofString "_law_taken"), none), (PySem.Str.ofString "_law_taken"), (PySem.Str.ofString "_law_taken"), defArgs x__law_taken, defBody x__law_taken, defScope x__law_taken, [], []⟩
def dd_law : He.DefD := ⟨((PySem.Str.ofString "law"), none), (PySem.Str.ofString "law"), (PySem.Str.ofString "law"), defArgs x_law, defBody x_law, defScope x_law, [], []⟩
def dd_InSun_init : He.DefD := ⟨((PySem.Str.ofString "InSun"), some (PySem.Str.ofString "__init__")), (PySem.Str.ofString "__init__"), (PySem.Str.ofString "InSun.__init__"), defArgs x_InSun_init, defBody x_InSun_init, defScope x_InSun_init, [], []⟩
def fn0 : List He.DefD := [dd__law_alike, dd_all_cells, dd_chosen, dd_far_from, dd_seat_for, dd_shaded, dd_moved, dd_Course_init, dd_Course_at, dd_suns_of, dd_first_in_sun, dd_is_number, dd_is_cell, dd_is_post, dd_need_floor, dd_need_folk, dd_need_sun, dd_need_all, dd_need_count, dd_awnings, dd_seats_of, dd_course, dd_paper, dd_parted, dd_free_cells, dd_need_rule, dd_parting, dd_shade, dd_need_paper, dd_shows]
def fn1 : List He.DefD := [dd_need_told, dd_suns, dd__law_cloth, dd__law_word, dd_restless, dd_scorched, dd_seated, dd__law_lane, dd__law_taken, dd_law, dd_InSun_init]
def fn : List He.DefD := fn0 ++ fn1
def atf (K : PySem.W.Frag) : Nat → Addr := fun i => match i with | 0 => He.ga K (PySem.Str.ofString "Course") | 2 => He.ga K (PySem.Str.ofString "ShadeError") | 3 => He.ga K (PySem.Str.ofString "BadFloor") | 4 => He.ga K (PySem.Str.ofString "BadSun") | 5 => He.ga K (PySem.Str.ofString "BadFolk") | 6 => He.ga K (PySem.Str.ofString "BadCount") | 7 => He.ga K (PySem.Str.ofString "BadRule") | 8 => He.ga K (PySem.Str.ofString "BadTold") | 9 => He.ga K (PySem.Str.ofString "BadPaper") | 10 => He.ga K (PySem.Str.ofString "InSun") | 11 => He.ga K (PySem.Str.ofString "BadDeed") | 12 => He.ga K (PySem.Str.ofString "Halted") | 13 => He.ga K (PySem.Str.ofString "BadText") | _ => 0
def fa0 : List He.Fa := [.glo (PySem.Str.ofString "_law_alike"), .glo (PySem.Str.ofString "all_cells"), .glo (PySem.Str.ofString "chosen"), .glo (PySem.Str.ofString "far_from"), .glo (PySem.Str.ofString "seat_for"), .glo (PySem.Str.ofString "shaded"), .glo (PySem.Str.ofString "moved"), .glo (PySem.Str.ofString "suns_of"), .glo (PySem.Str.ofString "first_in_sun"), .glo (PySem.Str.ofString "is_number"), .glo (PySem.Str.ofString "is_cell"), .glo (PySem.Str.ofString "is_post"), .glo (PySem.Str.ofString "need_floor"), .glo (PySem.Str.ofString "need_folk"), .glo (PySem.Str.ofString "need_sun"), .glo (PySem.Str.ofString "need_all"), .glo (PySem.Str.ofString "need_count"), .glo (PySem.Str.ofString "awnings"), .glo (PySem.Str.ofString "seats_of"), .glo (PySem.Str.ofString "course"), .glo (PySem.Str.ofString "paper"), .glo (PySem.Str.ofString "parted"), .glo (PySem.Str.ofString "free_cells"), .glo (PySem.Str.ofString "need_rule"), .glo (PySem.Str.ofString "parting"), .glo (PySem.Str.ofString "shade"), .glo (PySem.Str.ofString "need_paper"), .glo (PySem.Str.ofString "shows"), .glo (PySem.Str.ofString "need_told"), .glo (PySem.Str.ofString "suns")]
def fa1 : List He.Fa := [.glo (PySem.Str.ofString "_law_cloth"), .glo (PySem.Str.ofString "_law_word"), .glo (PySem.Str.ofString "restless"), .glo (PySem.Str.ofString "scorched"), .glo (PySem.Str.ofString "seated"), .glo (PySem.Str.ofString "_law_lane"), .glo (PySem.Str.ofString "_law_taken"), .glo (PySem.Str.ofString "law"), .free (PySem.Str.ofString "zip"), .free (PySem.Str.ofString "ValueError"), .free (PySem.Str.ofString "int"), .free (PySem.Str.ofString "bool"), .free (PySem.Str.ofString "str"), .free (PySem.Str.ofString "tuple"), .free (PySem.Str.ofString "list"), .free (PySem.Str.ofString "len"), .free (PySem.Str.ofString "isinstance"), .free (PySem.Str.ofString "sorted"), .free (PySem.Str.ofString "min"), .free (PySem.Str.ofString "max"), .free (PySem.Str.ofString "range"), .free (PySem.Str.ofString "enumerate"), .free (PySem.Str.ofString "abs"), .free (PySem.Str.ofString "all"), .free (PySem.Str.ofString "any"), .int (PySem.Str.ofString "MOST_SIDE") 5, .int (PySem.Str.ofString "MOST_POSTS") 4, .int (PySem.Str.ofString "MOST_HIGH") 4, .int (PySem.Str.ofString "MOST_AWNINGS") 8, .int (PySem.Str.ofString "MOST_BEATS") 6]
def fa2 : List He.Fa := [.int (PySem.Str.ofString "MOST_FOLK") 4, .int (PySem.Str.ofString "MOST_FAR") 1000000000000000000, .int (PySem.Str.ofString "MOST_MORE") 3, .str (PySem.Str.ofString "OVERHEAD") (PySem.Str.ofString "o"), .glo (PySem.Str.ofString "STEPS"), .glo (PySem.Str.ofString "RULES"), .glo (PySem.Str.ofString "ShadeError"), .glo (PySem.Str.ofString "BadFloor"), .glo (PySem.Str.ofString "BadSun"), .glo (PySem.Str.ofString "BadFolk"), .glo (PySem.Str.ofString "BadCount"), .glo (PySem.Str.ofString "BadRule"), .glo (PySem.Str.ofString "BadTold"), .glo (PySem.Str.ofString "BadPaper"), .glo (PySem.Str.ofString "InSun"), .glo (PySem.Str.ofString "BadDeed"), .glo (PySem.Str.ofString "Halted"), .glo (PySem.Str.ofString "BadText"), .cls (PySem.Str.ofString "Course"), .glo (PySem.Str.ofString "Course"), .noat (PySem.Str.ofString "Course") (PySem.Str.ofString "rows"), .noat (PySem.Str.ofString "Course") (PySem.Str.ofString "tail"), .noat (PySem.Str.ofString "Course") (PySem.Str.ofString "turn"), .mkr (PySem.Str.ofString "Course"), .meth (PySem.Str.ofString "Course") (PySem.Str.ofString "at")]
def fa : List He.Fa := fa0 ++ fa1 ++ fa2
def ts : List He.Tab := [(fun K => He.ga K (PySem.Str.ofString "STEPS"), [(PySem.Str.ofString "e"), (PySem.Str.ofString "n"), (PySem.Str.ofString "o"), (PySem.Str.ofString "s"), (PySem.Str.ofString "w")])]
def tf : List He.Defn := [((PySem.Str.ofString "seat_for"), none), ((PySem.Str.ofString "_law_lane"), none)]
def ex (K : PySem.W.Frag) : Bool := tabK K (He.ga K (PySem.Str.ofString "STEPS")) [(PySem.Str.ofString "e"), (PySem.Str.ofString "n"), (PySem.Str.ofString "o"), (PySem.Str.ofString "s"), (PySem.Str.ofString "w")] [tI 0 1, tI (-1) 0, tI 0 0, tI 1 0, tI 0 (-1)] && (repK K d_RULES (.ref (He.ga K (PySem.Str.ofString "RULES"))) && (supB K (atf K 2) && (xinB K (atf K 10) (He.ma K (atf K 10) (PySem.Str.ofString "__init__")) [(PySem.Str.ofString "beat")] && (covB K (atf K) (.ref (atf K 2)) cv_ShadeError && (subB K (atf K) (.ref (atf K 6)) sb_BadCount && (subB K (atf K) (.ref (atf K 11)) sb_BadDeed && (subB K (atf K) (.ref (atf K 3)) sb_BadFloor && (subB K (atf K) (.ref (atf K 5)) sb_BadFolk && (subB K (atf K) (.ref (atf K 9)) sb_BadPaper && (subB K (atf K) (.ref (atf K 7)) sb_BadRule && (subB K (atf K) (.ref (atf K 4)) sb_BadSun && (subB K (atf K) (.ref (atf K 13)) sb_BadText && (subB K (atf K) (.ref (atf K 8)) sb_BadTold && (subB K (atf K) (.ref (atf K 12)) sb_Halted && (subB K (atf K) (.ref (atf K 10)) sb_InSun && (subB K (atf K) (.type "ValueError") sb_ValueError && (xcF K (atf K 10) [(PySem.Str.ofString "beat"), (PySem.Str.ofString "done"), (PySem.Str.ofString "number"), (PySem.Str.ofString "part"), (PySem.Str.ofString "row")] && (decide ((tf.map fun p => (He.cT K p).2).Nodup)))))))))))))))))))
abbrev R : PySem.W.OpenRow := PySem.W.OpenLaw.row PySem.Challenge.rw_shadeseats_k16_known_floors
abbrev hk : PySem.W.Hook := PF.hookY 6 fa fn ts tf ex
def ob (s : PySem.W.SharedT) : He.AlX := PF.obsY 6 fa fn ts tf ex (HandSHeadRun.getT s)
theorem ob_eq (s : PySem.W.SharedT) : ob s = hk.obs s.abs := PF.obsY_eq (HandSHeadRun.getT_eq s)
def loose0 : List Str := [(PySem.Str.ofString "ShadeError"), (PySem.Str.ofString "BadFloor"), (PySem.Str.ofString "BadSun"), (PySem.Str.ofString "BadFolk"), (PySem.Str.ofString "BadCount"), (PySem.Str.ofString "BadRule"), (PySem.Str.ofString "BadTold"), (PySem.Str.ofString "BadPaper"), (PySem.Str.ofString "InSun"), (PySem.Str.ofString "BadDeed"), (PySem.Str.ofString "Halted"), (PySem.Str.ofString "BadText"), (PySem.Str.ofString "MOST_SIDE"), (PySem.Str.ofString "MOST_POSTS"), (PySem.Str.ofString "MOST_HIGH"), (PySem.Str.ofString "MOST_AWNINGS"), (PySem.Str.ofString "MOST_BEATS"), (PySem.Str.ofString "MOST_FOLK"), (PySem.Str.ofString "OVERHEAD"), (PySem.Str.ofString "STEPS"), (PySem.Str.ofString "RULES"), (PySem.Str.ofString "is_number"), (PySem.Str.ofString "need_count"), (PySem.Str.ofString "is_cell"), (PySem.Str.ofString "is_post"), (PySem.Str.ofString "need_floor"), (PySem.Str.ofString "need_sun"), (PySem.Str.ofString "need_rule"), (PySem.Str.ofString "need_folk"), (PySem.Str.ofString "all_cells")]
def loose1 : List Str := [(PySem.Str.ofString "shaded"), (PySem.Str.ofString "shade"), (PySem.Str.ofString "parted"), (PySem.Str.ofString "MOST_FAR"), (PySem.Str.ofString "far_from"), (PySem.Str.ofString "seat_for"), (PySem.Str.ofString "moved"), (PySem.Str.ofString "Course"), (PySem.Str.ofString "need_all"), (PySem.Str.ofString "seats_of"), (PySem.Str.ofString "seated"), (PySem.Str.ofString "course"), (PySem.Str.ofString "restless"), (PySem.Str.ofString "suns_of"), (PySem.Str.ofString "scorched"), (PySem.Str.ofString "first_in_sun"), (PySem.Str.ofString "MOST_MORE"), (PySem.Str.ofString "need_told"), (PySem.Str.ofString "suns"), (PySem.Str.ofString "free_cells"), (PySem.Str.ofString "parting"), (PySem.Str.ofString "chosen"), (PySem.Str.ofString "awnings"), (PySem.Str.ofString "paper"), (PySem.Str.ofString "need_paper"), (PySem.Str.ofString "shows"), (PySem.Str.ofString "_law_taken"), (PySem.Str.ofString "_law_alike"), (PySem.Str.ofString "_law_word"), (PySem.Str.ofString "_law_lane")]
def loose2 : List Str := [(PySem.Str.ofString "_law_cloth")]
def loose : List Str := loose0 ++ loose1 ++ loose2
theorem run_f (w : World) : HandSHeadRun.RunEq R (PySem.W.view R.prog [66]) hk ob 20000 loose (w.withFollow "special-get-raises" false) := by intro os; kernel_rfl
theorem run_t (w : World) : HandSHeadRun.RunEq R (PySem.W.view R.prog [66]) hk ob 20000 loose (w.withFollow "special-get-raises" true) := by intro os; kernel_rfl
theorem run (w : World) : HandSHeadRun.RunEq R (PySem.W.view R.prog [66]) hk ob 20000 loose w :=
  PySem.W.byRow2 "special-get-raises" (P := fun w => HandSHeadRun.RunEq R (PySem.W.view R.prog [66]) hk ob 20000 loose w) run_f run_t w
end G

set_option Elab.async false
set_option linter.all false
set_option maxRecDepth 100000
set_option maxHeartbeats 1000000
namespace PF
open PySem PySem.Spec PyProof.Rows L2
/-! ### sorting, so that the kernel can run it -/
section
variable {α : Type} (le : α → α → Bool)
def mg : Nat → List α → List α → List α
  | 0, xs, ys => xs ++ ys
  | _ + 1, [], ys => ys
  | _ + 1, x :: xs, [] => x :: xs
  | n + 1, x :: xs, y :: ys => if le x y then x :: mg n xs (y :: ys) else y :: mg n (x :: xs) ys
def ms : Nat → List α → List α
  | 0, xs => xs
  | _ + 1, [] => []
  | _ + 1, [a] => [a]
  | n + 1, a :: b :: xs => mg le (xs.length + 2) (ms n ((a :: b :: xs).take ((xs.length + 3) / 2))) (ms n ((a :: b :: xs).drop ((xs.length + 3) / 2)))
variable {le}
theorem mg_eq : ∀ (n : Nat) (xs ys : List α), xs.length + ys.length ≤ n → mg le n xs ys = List.merge xs ys le
  | 0, xs, ys, h => by
    have h1 : xs = [] := List.length_eq_zero_iff.mp (by omega)
    have h2 : ys = [] := List.length_eq_zero_iff.mp (by omega)
    subst h1 h2
    simp [mg]
  | n + 1, [], ys, h => by simp [mg]
  | n + 1, x :: xs, [], h => by simp [mg]
  | n + 1, x :: xs, y :: ys, h => by
    rw [mg, List.merge, mg_eq n xs (y :: ys) (by simp at h ⊢; omega), mg_eq n (x :: xs) ys (by simp at h ⊢; omega)]
theorem ms_eq : ∀ (n : Nat) (xs : List α), xs.length ≤ n → ms le n xs = xs.mergeSort le
  | 0, xs, h => by
    have h1 : xs = [] := List.length_eq_zero_iff.mp (by omega)
    subst h1
    simp [ms]
  | n + 1, [], h => by simp [ms]
  | n + 1, [a], h => by simp [ms]
  | n + 1, a :: b :: xs, h => by
    have h : xs.length + 1 + 1 ≤ n + 1 := by simpa using h
    rw [ms, ms_eq n _ (by rw [List.length_take]; simp only [List.length_cons]; omega), ms_eq n _ (by rw [List.length_drop]; simp only [List.length_cons]; omega), List.mergeSort]
    rw [mg_eq _ _ _ (by rw [List.length_mergeSort, List.length_mergeSort, List.length_take, List.length_drop]; simp only [List.length_cons]; omega)]
    simp [List.MergeSort.Internal.splitInTwo, List.splitAt_eq]
end
def srtE (ds : List D) : List D := ms (PySem.W.dataLe false toPy) ds.length ds
theorem srtE_eq (ds : List D) : srtD ds = srtE ds := (ms_eq _ _ (Nat.le_refl _)).symm
def srtK : List O → Option O
  | [o] => match o.keysT with
    | some ks => if srtOk ks = true then some (.lst ((srtE ks).map .val)) else none
    | none => match o.dsL with
      | some ds => if srtOk ds = true then some (.lst ((srtE ds).map .val)) else none
      | none => none
  | _ => none
theorem srtK_eq : srtF = srtK := by
  funext os
  unfold srtF srtK
  simp only [srtE_eq]
  all_goals rfl
end PF

set_option Elab.async false
set_option linter.all false
set_option maxRecDepth 1000000
set_option maxHeartbeats 4000000
namespace G
open PySem PySem.Spec PyProof.Rows L2 PF
def kb_is_number : M Out :=
  retS (blO (andB ((biF isiF (two (seqP 0 (M.pure (.val (.ty "int")))))).bind asB) (andB (notB ((biF isiF (two (seqP 0 (M.pure (.val (.ty "bool")))))).bind asB)) (chI leC leC (pk 1) (pk 0) (pk 2)))))
def k_is_number : M O := defM 3 kb_is_number
theorem kq_is_number : m_is_number = k_is_number := by
  unfold m_is_number k_is_number b_is_number kb_is_number
  rfl
def kb_is_cell : M Out :=
  seqS (iteM (orB (notB ((biF isiF (two (seqP 0 (M.pure (.val (.ty "tuple")))))).bind asB)) (cmpF neC (seq2 (biF lenF (one (pk 0))) (M.pure (.val (.int 2)))))) (retS (M.pure (.val (.bl false)))) (M.pure .nx))
    (retS (blO (andB ((callF [none, none, none] (consA (binF idxE (seqP 0 (M.pure (.val (.int 0))))) (consA (M.pure (.val (.int 0))) (consA (binF subG (seq2 (binF idxE (seqP 1 (M.pure (.val (.int 0))))) (M.pure (.val (.int 1))))) (nilA)))) [false, false, false] k_is_number).bind asB) ((callF [none, none, none] (consA (binF idxE (seqP 0 (M.pure (.val (.int 1))))) (consA (M.pure (.val (.int 0))) (consA (binF subG (seq2 (binF idxE (seqP 1 (M.pure (.val (.int 1))))) (M.pure (.val (.int 1))))) (nilA)))) [false, false, false] k_is_number).bind asB))))
def k_is_cell : M O := defM 2 kb_is_cell
theorem kq_is_cell : m_is_cell = k_is_cell := by
  unfold m_is_cell k_is_cell b_is_cell kb_is_cell
  simp only [kq_is_number]
def kb_is_post : M Out :=
  seqS (iteM (orB (notB ((biF isiF (two (seqP 0 (M.pure (.val (.ty "tuple")))))).bind asB)) (cmpF neC (seq2 (biF lenF (one (pk 0))) (M.pure (.val (.int 3)))))) (retS (M.pure (.val (.bl false)))) (M.pure .nx))
    (retS (blO (andB ((callF [none, none] (consA (sliP 0 (M.pure none) ((M.pure (.val (.int 2))).bind asI)) (consA (rd 1) (nilA))) [false, false] k_is_cell).bind asB) ((callF [none, none, none] (consA (binF idxE (seqP 0 (M.pure (.val (.int 2))))) (consA (M.pure (.val (.int 1))) (consA (M.pure (.val (.int 4))) (nilA)))) [false, false, false] k_is_number).bind asB))))
def k_is_post : M O := defM 2 kb_is_post
theorem kq_is_post : m_is_post = k_is_post := by
  unfold m_is_post k_is_post b_is_post kb_is_post
  simp only [kq_is_cell, kq_is_number]
def kb_need_floor : M Out :=
  seqS (iteM (orB (notB ((biF isiF (two (seqP 0 (M.pure (.val (.ty "tuple")))))).bind asB)) (cmpF neC (seq2 (biF lenF (one (pk 0))) (M.pure (.val (.int 4)))))) (M.stuck) (M.pure .nx))
    (seqS ((rngI1 (one (M.pure (.val (.int 2))))).bind fun ds => forL (nmT 1) (iteM (notB ((callF [none, none, none] (consA (binF idxE (seqP 0 (pk 1))) (consA (M.pure (.val (.int 1))) (consA (M.pure (.val (.int 5))) (nilA)))) [false, false, false] k_is_number).bind asB)) (M.stuck) (M.pure .nx)) ds)
    ((seqI ((consA ((consA (M.pure (.val (.int 2))) (consA (M.pure (.val (.int 4))) (nilA))).bind tupM) (consA ((consA (M.pure (.val (.int 3))) (consA (M.pure (.val (.int 8))) (nilA))).bind tupM) (nilA))).bind tupM)).bind fun ds => forL (tupT 2 (consT (nmT 2) (consT (nmT 3) (nilT)))) (seqS (iteM (notB ((biF isiF (two (seq2 (binF idxE (seqP 0 (pk 2))) (M.pure (.val (.ty "tuple")))))).bind asB)) (M.stuck) (M.pure .nx))
    (seqS (setS 4 ((nilA).bind lstM))
    ((enI (binF idxE (seqP 0 (pk 2)))).bind fun ds => forL (tupT 2 (consT (nmT 1) (consT (nmT 5) (nilT)))) (seqS (setS 6 (iteM (cmpF eqC (seqP 2 (M.pure (.val (.int 2))))) (callF [none, none] (consA (rd 5) (consA (rd 0) (nilA))) [false, false] k_is_post) (callF [none, none] (consA (rd 5) (consA (rd 0) (nilA))) [false, false] k_is_cell)))
    (seqS (iteM (orB (cmpF eqC (seqP 1 (pk 3))) (orB (notB ((pk 6).bind asB)) (cmpF inE (seq2 (sliP 5 (M.pure none) ((M.pure (.val (.int 2))).bind asI)) (pk 4))))) (M.stuck) (M.pure .nx))
    (exprS (appF 4 (sliP 5 (M.pure none) ((M.pure (.val (.int 2))).bind asI)))))) ds))) ds))
def k_need_floor : M O := defM 7 kb_need_floor
theorem kq_need_floor : m_need_floor = k_need_floor := by
  unfold m_need_floor k_need_floor b_need_floor kb_need_floor
  simp only [kq_is_number, kq_is_post, kq_is_cell]
def kb_need_sun : M Out :=
  seqS (iteM (orB (notB ((biF isiF (two (seqP 0 (M.pure (.val (.ty "str")))))).bind asB)) (cmpF eqC (seqP 0 (M.pure (.val (.str (PySem.Str.ofString ""))))))) (M.stuck) (M.pure .nx))
    ((enI (rd 0)).bind fun ds => forL (tupT 2 (consT (nmT 1) (consT (nmT 2) (nilT)))) (iteM (orB (cmpF eqC (seqP 1 (M.pure (.val (.int 6))))) (cmpF ninE (seqP 2 (M.pure (.val d_STEPS))))) (M.stuck) (M.pure .nx)) ds)
def k_need_sun : M O := defM 3 kb_need_sun
theorem kq_need_sun : m_need_sun = k_need_sun := by
  unfold m_need_sun k_need_sun b_need_sun kb_need_sun
  rfl
def kb_need_count : M Out :=
  iteM (notB ((callF [none, none, none] (consA (rd 0) (consA (rd 1) (consA (rd 2) (nilA)))) [false, false, false] k_is_number).bind asB)) (M.stuck) (M.pure .nx)
def k_need_count : M O := defM 3 kb_need_count
theorem kq_need_count : m_need_count = k_need_count := by
  unfold m_need_count k_need_count b_need_count kb_need_count
  simp only [kq_is_number]
def kb_all_cells : M Out :=
  retS (lc2F [1, 2] [2] (rngI1 (one (binF idxE (seqP 0 (M.pure (.val (.int 0))))))) (nmT 1) (M.pure true) (rngI1 (one (binF idxE (seqP 0 (M.pure (.val (.int 1))))))) (nmT 2) (M.pure true) ((consA (rd 1) (consA (rd 2) (nilA))).bind tupM))
def k_all_cells : M O := defM 3 kb_all_cells
theorem kq_all_cells : m_all_cells = k_all_cells := by
  unfold m_all_cells k_all_cells b_all_cells kb_all_cells
  rfl
def kb_shaded : M Out :=
  seqS (asgS (binF idxE (seq2 (M.pure (.val d_STEPS)) (pk 1))) (tupT 2 (consT (nmT 2) (consT (nmT 3) (nilT)))))
    (seqS (setS 4 (M.pure (.dct true [] [])))
    (seqS ((seqI (binF idxE (seqP 0 (M.pure (.val (.int 2)))))).bind fun ds => forL (tupT 3 (consT (nmT 5) (consT (nmT 6) (consT (nmT 7) (nilT))))) ((rngI2 (two (seq2 (M.pure (.val (.int 1))) (iteM (cmpF neC (seqP 1 (M.pure (.val (.str (PySem.Str.ofString "o")))))) (binF addG (seqP 7 (M.pure (.val (.int 1))))) (M.pure (.val (.int 1))))))).bind fun ds => forL (nmT 8) (asgS (M.pure (.val (.bl true))) (subT 4 ((consA (binF addG (seqP 5 (binF mulG (seqP 2 (pk 8))))) (consA (binF addG (seqP 6 (binF mulG (seqP 3 (pk 8))))) (nilA))).bind tupM))) ds) ds)
    (seqS ((seqI (binF idxE (seqP 0 (M.pure (.val (.int 3)))))).bind fun ds => forL (tupT 2 (consT (nmT 5) (consT (nmT 6) (nilT)))) (asgS (M.pure (.val (.bl true))) (subT 4 ((consA (binF addG (seqP 5 (pk 2))) (consA (binF addG (seqP 6 (pk 3))) (nilA))).bind tupM))) ds)
    (retS (dcF [9] (seqI (callF [none] (consA (rd 0) (nilA)) [false] k_all_cells)) (nmT 9) (cmpF inE (seqP 9 (pk 4))) (rd 9) (M.pure (.val (.bl true))))))))
def k_shaded : M O := defM 10 kb_shaded
theorem kq_shaded : m_shaded = k_shaded := by
  unfold m_shaded k_shaded b_shaded kb_shaded
  simp only [kq_all_cells]
def kb_shade : M Out :=
  seqS (exprS (callF [none] (consA (rd 0) (nilA)) [false] k_need_floor))
    (seqS (exprS (callF [none] (consA (rd 1) (nilA)) [false] k_need_sun))
    (seqS (exprS (callF [none, none, none] (consA (rd 2) (consA (M.pure (.val (.int 0))) (consA (binF powG (seq2 (M.pure (.val (.int 10))) (M.pure (.val (.int 18))))) (nilA)))) [false, false, false] k_need_count))
    (retS (biF srtK (one (callF [none, none] (consA (rd 0) (consA (binF idxE (seqP 1 (binF modG (seqP 2 (biF lenF (one (pk 1))))))) (nilA))) [false, false] k_shaded))))))
def k_shade : M O := defM 3 kb_shade
theorem kq_shade : m_shade = k_shade := by
  unfold m_shade k_shade b_shade kb_shade
  simp only [kq_need_floor, kq_need_sun, kq_need_count, kq_shaded, srtK_eq]
def kb__law_alike (m : M O) : M Out :=
  seqS (iteM (andB ((biF isiF (two (seqP 0 ((consA (M.pure (.val (.ty "tuple"))) (consA (M.pure (.val (.ty "list"))) (nilA))).bind tupM)))).bind asB) ((biF isiF (two (seqP 1 ((consA (M.pure (.val (.ty "tuple"))) (consA (M.pure (.val (.ty "list"))) (nilA))).bind tupM)))).bind asB)) (seqS (iteM (orB (cmpF neC (seq2 (biF isiF (two (seqP 0 (M.pure (.val (.ty "tuple")))))) (biF isiF (two (seqP 1 (M.pure (.val (.ty "tuple")))))))) (cmpF neC (seq2 (biF lenF (one (pk 0))) (biF lenF (one (pk 1)))))) (retS (M.pure (.val (.bl false)))) (M.pure .nx))
    (retS (blO (cmpF eqC (seq2 (lcF [2] (rngI1 (one (biF lenF (one (pk 0))))) (nmT 2) (notB ((callF [none, none] (consA (binF idxE (seqP 0 (pk 2))) (consA (binF idxE (seqP 1 (pk 2))) (nilA))) [false, false] m).bind asB)) (rd 2)) ((nilA).bind lstM)))))) (M.pure .nx))
    (retS (blO (andB (cmpF eqC (seqP 0 (pk 1))) (cmpF eqC (seq2 (biF isiF (two (seqP 0 (M.pure (.val (.ty "bool")))))) (biF isiF (two (seqP 1 (M.pure (.val (.ty "bool")))))))))))
def k__law_alike : Nat → M O
  | 0 => M.stuck
  | n + 1 => defM 3 (kb__law_alike (k__law_alike n))
theorem kb__law_alike_eq (m : M O) : b__law_alike m = kb__law_alike m := by
  unfold b__law_alike kb__law_alike
  rfl
theorem kq__law_alike : m__law_alike = k__law_alike := by
  funext n
  induction n with
  | zero => rfl
  | succ n ih => rw [m__law_alike, k__law_alike, ih, kb__law_alike_eq]
def kb_need_folk : M Out :=
  seqS (iteM (notB ((biF isiF (two (seqP 1 (M.pure (.val (.ty "tuple")))))).bind asB)) (M.stuck) (M.pure .nx))
    (seqS (setS 2 (lcF [8] (seqI (binF idxE (seqP 0 (M.pure (.val (.int 2)))))) (nmT 8) (M.pure true) (sliP 8 (M.pure none) ((M.pure (.val (.int 2))).bind asI))))
    (seqS (setS 3 ((nilA).bind lstM))
    ((enI (rd 1)).bind fun ds => forL (tupT 2 (consT (nmT 4) (consT (nmT 5) (nilT)))) (seqS (iteM (orB (cmpF eqC (seqP 4 (M.pure (.val (.int 4))))) (orB (notB ((biF isiF (two (seqP 5 (M.pure (.val (.ty "tuple")))))).bind asB)) (cmpF neC (seq2 (biF lenF (one (pk 5))) (M.pure (.val (.int 2))))))) (M.stuck) (M.pure .nx))
    (seqS (asgS (rd 5) (tupT 2 (consT (nmT 6) (consT (nmT 7) (nilT)))))
    (seqS (iteM (orB (notB ((callF [none, none] (consA (rd 6) (consA (rd 0) (nilA))) [false, false] k_is_cell).bind asB)) (orB (cmpF inE (seqP 6 (pk 2))) (orB (cmpF inE (seqP 6 (pk 3))) (orB (notB ((biF isiF (two (seqP 7 (M.pure (.val (.ty "str")))))).bind asB)) (cmpF ninE (seqP 7 (M.pure (.val d_RULES)))))))) (M.stuck) (M.pure .nx))
    (exprS (appF 3 (rd 6)))))) ds)))
def k_need_folk : M O := defM 9 kb_need_folk
theorem kq_need_folk : m_need_folk = k_need_folk := by
  unfold m_need_folk k_need_folk b_need_folk kb_need_folk
  simp only [kq_is_cell]
def kb_need_all : M Out :=
  seqS (exprS (callF [none] (consA (rd 0) (nilA)) [false] k_need_floor))
    (seqS (exprS (callF [none] (consA (rd 1) (nilA)) [false] k_need_sun))
    (exprS (callF [none, none] (consA (rd 0) (consA (rd 2) (nilA))) [false, false] k_need_folk)))
def k_need_all : M O := defM 3 kb_need_all
theorem kq_need_all : m_need_all = k_need_all := by
  unfold m_need_all k_need_all b_need_all kb_need_all
  simp only [kq_need_floor, kq_need_sun, kq_need_folk]
def kb_far_from : M Out :=
  retS (binF addG (seq2 (biF absF (one (binF subG (seq2 (binF idxE (seqP 0 (M.pure (.val (.int 0))))) (binF idxE (seqP 1 (M.pure (.val (.int 0))))))))) (biF absF (one (binF subG (seq2 (binF idxE (seqP 0 (M.pure (.val (.int 1))))) (binF idxE (seqP 1 (M.pure (.val (.int 1)))))))))))
def k_far_from : M O := defM 2 kb_far_from
theorem kq_far_from : m_far_from = k_far_from := by
  unfold m_far_from k_far_from b_far_from kb_far_from
  rfl
def kb_seat_for : M Out :=
  seqS (iteM (orB (cmpF eqC (seqP 0 (M.pure (.val (.str (PySem.Str.ofString "stay")))))) (cmpF eqC (seqP 2 ((nilA).bind lstM)))) (retS (rd 1)) (M.pure .nx))
    (seqS (iteM (cmpF eqC (seqP 0 (M.pure (.val (.str (PySem.Str.ofString "first")))))) (retS (binF idxE (seqP 2 (M.pure (.val (.int 0)))))) (M.pure .nx))
    (retS (minKF (rd 2) [1] ((consA (callF [none, none] (consA (rd 1) (consA (rd 0) (nilA))) [false, false] k_far_from) (consA (rd 0) (nilA))).bind tupM))))
def k_seat_for : M O := defM 3 kb_seat_for
theorem kq_seat_for : m_seat_for = k_seat_for := by
  unfold m_seat_for k_seat_for b_seat_for kb_seat_for
  simp only [kq_far_from]
def kb_moved : M Out :=
  seqS (setS 3 (callF [none, none] (consA (rd 0) (consA (rd 1) (nilA))) [false, false] k_shaded))
    (seqS (setS 4 (lcF [11] (seqI (binF idxE (seqP 0 (M.pure (.val (.int 2)))))) (nmT 11) (M.pure true) (sliP 11 (M.pure none) ((M.pure (.val (.int 2))).bind asI))))
    (seqS (setS 5 (biF lstF (one (pk 2))))
    (seqS ((enI (rd 2)).bind fun ds => forL (tupT 2 (consT (nmT 6) (consT (tupT 2 (consT (nmT 7) (consT (nmT 8) (nilT)))) (nilT)))) (iteM (cmpF ninE (seqP 7 (pk 3))) (seqS (setS 9 (lcB [12] 5 (nmT 12) (M.pure true) (binF idxE (seqP 12 (M.pure (.val (.int 0)))))))
    (seqS (setS 10 (lcF [13] (seqI (callF [none] (consA (rd 0) (nilA)) [false] k_all_cells)) (nmT 13) (andB (cmpF inE (seqP 13 (pk 3))) (cmpF ninE (seqP 13 (binF addG (seqP 9 (pk 4)))))) (rd 13)))
    (asgS ((consA (callF [none, none, none] (consA (rd 8) (consA (rd 7) (consA (rd 10) (nilA)))) [false, false, false] k_seat_for) (consA (rd 8) (nilA))).bind tupM) (subT 5 (rd 6))))) (M.pure .nx)) ds)
    (retS (biF tupF (one (pk 5)))))))
def k_moved : M O := defM 14 kb_moved
theorem kq_moved : m_moved = k_moved := by
  unfold m_moved k_moved b_moved kb_moved
  simp only [kq_shaded, kq_all_cells, kq_seat_for]
def kb_Course_init : M Out :=
  seqS (setS 4 (M.pure (.dct true [] [])))
    (seqS (fldS 0 0 (PySem.Str.ofString "rows") ((nilA).bind lstM))
    (seqS (setS 5 (M.pure (.val (.int 0))))
    (seqS (whileN (cmpF ninE (seq2 ((consA (rd 3) (consA (binF modG (seqP 5 (biF lenF (one (pk 2))))) (nilA))).bind tupM) (pk 4))) (seqS (asgS (rd 5) (subT 4 ((consA (rd 3) (consA (binF modG (seqP 5 (biF lenF (one (pk 2))))) (nilA))).bind tupM)))
    (seqS (exprS (appFldN 0 0 (PySem.Str.ofString "rows") 3))
    (seqS (setS 3 (callF [none, none, none] (consA (rd 1) (consA (binF idxE (seqP 2 (binF modG (seqP 5 (biF lenF (one (pk 2))))))) (consA (rd 3) (nilA)))) [false, false, false] k_moved))
    (augI 5 (M.pure (.val (.int 1))))))) lim)
    (seqS (fldS 0 0 (PySem.Str.ofString "tail") (binF idxE (seqP 4 ((consA (rd 3) (consA (binF modG (seqP 5 (biF lenF (one (pk 2))))) (nilA))).bind tupM))))
    (fldS 0 0 (PySem.Str.ofString "turn") (binF subG (seqP 5 (fldE 0 (PySem.Str.ofString "tail") (pk 0)))))))))
def k_Course_init : M O := defM 6 kb_Course_init
theorem kq_Course_init : m_Course_init = k_Course_init := by
  unfold m_Course_init k_Course_init b_Course_init kb_Course_init
  simp only [kq_moved]
def kb_Course_at : M Out :=
  seqS (iteM (cmpF ltC (seqP 1 (biF lenF (one (fldE 0 (PySem.Str.ofString "rows") (pk 0)))))) (retS (binF idxE (seq2 (fldE 0 (PySem.Str.ofString "rows") (pk 0)) (pk 1)))) (M.pure .nx))
    (retS (binF idxE (seq2 (fldE 0 (PySem.Str.ofString "rows") (pk 0)) (binF addG (seq2 (fldE 0 (PySem.Str.ofString "tail") (pk 0)) (binF modG (seq2 (binF subG (seqP 1 (fldE 0 (PySem.Str.ofString "tail") (pk 0)))) (fldE 0 (PySem.Str.ofString "turn") (pk 0)))))))))
def k_Course_at : M O := defM 2 kb_Course_at
theorem kq_Course_at : m_Course_at = k_Course_at := by
  unfold m_Course_at k_Course_at b_Course_at kb_Course_at
  rfl
def kb_seats_of : M Out :=
  retS (biF tupF (one (lcF [1, 2] (seqI (rd 0)) (tupT 2 (consT (nmT 1) (consT (nmT 2) (nilT)))) (M.pure true) (rd 1))))
def k_seats_of : M O := defM 3 kb_seats_of
theorem kq_seats_of : m_seats_of = k_seats_of := by
  unfold m_seats_of k_seats_of b_seats_of kb_seats_of
  rfl
def kb_seated : M Out :=
  seqS (exprS (callF [none, none, none] (consA (rd 0) (consA (rd 1) (consA (rd 2) (nilA)))) [false, false, false] k_need_all))
    (seqS (exprS (callF [none, none, none] (consA (rd 3) (consA (M.pure (.val (.int 0))) (consA (M.pure (.val (.int 1000000000000000000))) (nilA)))) [false, false, false] k_need_count))
    (retS (callF [none] (consA (callF [none, none] (consA (chkM 0 (PySem.Str.ofString "at") (frzM (makeF 0 (consA (rd 0) (consA (rd 1) (consA (rd 2) (nilA)))) k_Course_init))) (consA (rd 3) (nilA))) [false, false] k_Course_at) (nilA)) [false] k_seats_of)))
def k_seated : M O := defM 4 kb_seated
theorem kq_seated : m_seated = k_seated := by
  unfold m_seated k_seated b_seated kb_seated
  simp only [kq_need_all, kq_need_count, kq_Course_init, kq_Course_at, kq_seats_of]
def kb_restless : M Out :=
  seqS (exprS (callF [none, none, none] (consA (rd 0) (consA (rd 1) (consA (rd 2) (nilA)))) [false, false, false] k_need_all))
    (seqS (setS 3 (frzM (makeF 0 (consA (rd 0) (consA (rd 1) (consA (rd 2) (nilA)))) k_Course_init)))
    (seqS (setS 4 (sliF (fldE 0 (PySem.Str.ofString "rows") (pk 3)) ((fldE 0 (PySem.Str.ofString "tail") (pk 3)).bind asI) (M.pure none)))
    (retS (lcF [5] (rngI1 (one (biF lenF (one (pk 2))))) (nmT 5) ((biF anyF (one (lcF [6] (seqI (rd 4)) (nmT 6) (M.pure true) (blO (cmpF neC (seq2 (binF idxE (seqP 6 (pk 5))) (binF idxE (seq2 (binF idxE (seqP 4 (M.pure (.val (.int 0))))) (pk 5))))))))).bind asB) (rd 5)))))
def k_restless : M O := defM 7 kb_restless
theorem kq_restless : m_restless = k_restless := by
  unfold m_restless k_restless b_restless kb_restless
  simp only [kq_need_all, kq_Course_init]
def kb_suns_of : M Out :=
  seqS (setS 3 (callF [none, none] (consA (rd 0) (consA (rd 1) (nilA))) [false, false] k_shaded))
    (retS (lcF [4, 5, 6] (enI (rd 2)) (tupT 2 (consT (nmT 4) (consT (tupT 2 (consT (nmT 5) (consT (nmT 6) (nilT)))) (nilT)))) (cmpF ninE (seqP 5 (pk 3))) (rd 4)))
def k_suns_of : M O := defM 7 kb_suns_of
theorem kq_suns_of : m_suns_of = k_suns_of := by
  unfold m_suns_of k_suns_of b_suns_of kb_suns_of
  simp only [kq_shaded]
def kb_scorched : M Out :=
  seqS (exprS (callF [none, none, none] (consA (rd 0) (consA (rd 1) (consA (rd 2) (nilA)))) [false, false, false] k_need_all))
    (seqS (setS 3 (frzM (makeF 0 (consA (rd 0) (consA (rd 1) (consA (rd 2) (nilA)))) k_Course_init)))
    (seqS (setS 4 (lcF [7] (seqI (rd 2)) (nmT 7) (M.pure true) ((consA (M.pure (.val (.int 0))) (consA (M.pure (.val (.int 0))) (nilA))).bind lstM)))
    (seqS ((rngI1 (one (binF addG (seq2 (fldE 0 (PySem.Str.ofString "tail") (pk 3)) (fldE 0 (PySem.Str.ofString "turn") (pk 3)))))).bind fun ds => forL (nmT 5) ((seqI (callF [none, none, none] (consA (rd 0) (consA (binF idxE (seqP 1 (binF modG (seqP 5 (biF lenF (one (pk 1))))))) (consA (callF [none, none] (consA (chkM 0 (PySem.Str.ofString "at") (rd 3)) (consA (binF addG (seqP 5 (M.pure (.val (.int 1))))) (nilA))) [false, false] k_Course_at) (nilA)))) [false, false, false] k_suns_of)).bind fun ds => forL (nmT 6) (aug2S 4 (rd 6) (biF intF (one (blO (cmpF geC (seqP 5 (fldE 0 (PySem.Str.ofString "tail") (pk 3))))))) 1) ds) ds)
    (retS (lcF [8] (seqI (rd 4)) (nmT 8) (M.pure true) (biF tupF (one (pk 8))))))))
def k_scorched : M O := defM 9 kb_scorched
theorem kq_scorched : m_scorched = k_scorched := by
  unfold m_scorched k_scorched b_scorched kb_scorched
  simp only [kq_need_all, kq_Course_init, kq_Course_at, kq_suns_of]
def k__law_word (m : M O) : M O := wordF n__law_word i__law_word (covT cv_ShadeError) h__law_word m
theorem kq__law_word : m__law_word = k__law_word := rfl
def kb_first_in_sun : M Out :=
  seqS (setS 3 (frzM (makeF 0 (consA (rd 0) (consA (rd 1) (consA (rd 2) (nilA)))) k_Course_init)))
    (seqS ((rngI1 (one (binF addG (seq2 (fldE 0 (PySem.Str.ofString "tail") (pk 3)) (fldE 0 (PySem.Str.ofString "turn") (pk 3)))))).bind fun ds => forL (nmT 4) (iteM (cmpF neC (seq2 (callF [none, none, none] (consA (rd 0) (consA (binF idxE (seqP 1 (binF modG (seqP 4 (biF lenF (one (pk 1))))))) (consA (callF [none, none] (consA (chkM 0 (PySem.Str.ofString "at") (rd 3)) (consA (binF addG (seqP 4 (M.pure (.val (.int 1))))) (nilA))) [false, false] k_Course_at) (nilA)))) [false, false, false] k_suns_of) ((nilA).bind lstM))) (retS (rd 4)) (M.pure .nx)) ds)
    (retS (M.pure (.val .non))))
def k_first_in_sun : M O := defM 5 kb_first_in_sun
theorem kq_first_in_sun : m_first_in_sun = k_first_in_sun := by
  unfold m_first_in_sun k_first_in_sun b_first_in_sun kb_first_in_sun
  simp only [kq_Course_init, kq_Course_at, kq_suns_of]
def kb_paper : M Out :=
  seqS (exprS (callF [none, none, none] (consA (rd 0) (consA (rd 1) (consA (rd 2) (nilA)))) [false, false, false] k_need_all))
    (seqS (setS 3 (callF [none, none, none] (consA (rd 0) (consA (rd 1) (consA (rd 2) (nilA)))) [false, false, false] k_first_in_sun))
    (seqS (iteM (cmpF isNC (seqP 3 (M.pure (.val .non)))) (raiseF 10 [(PySem.Str.ofString "beat")] (consA (rd 3) (nilA))) (M.pure .nx))
    (seqS (setS 4 (frzM (makeF 0 (consA (rd 0) (consA (rd 1) (consA (rd 2) (nilA)))) k_Course_init)))
    (retS (biF srtK (one (lcF [5, 6] (enI (fldE 0 (PySem.Str.ofString "rows") (pk 4))) (tupT 2 (consT (nmT 5) (consT (nmT 6) (nilT)))) (M.pure true) ((consA (binF modG (seqP 5 (biF lenF (one (pk 1))))) (consA (callF [none] (consA (rd 6) (nilA)) [false] k_seats_of) (nilA))).bind tupM))))))))
def k_paper : M O := defM 7 kb_paper
theorem kq_paper : m_paper = k_paper := by
  unfold m_paper k_paper b_paper kb_paper
  simp only [kq_need_all, kq_first_in_sun, kq_Course_init, kq_seats_of, srtK_eq]
def kb__law_lane : M Out :=
  seqS (par2 3 4 (consA ((consA (M.pure (.val (.int 1))) (consA (rd 0) (consA ((consA ((consA (M.pure (.val (.int 0))) (consA (binF divG (seqP 0 (M.pure (.val (.int 2))))) (consA (rd 1) (nilA)))).bind tupM) (nilA)).bind tupM) (consA ((nilA).bind tupM) (nilA))))).bind tupM) (consA (binF divG (seqP 0 (M.pure (.val (.int 2))))) (nilA))))
    (seqS (setS 5 (lcF [11] (rngI2 (two (seq2 (biF max2F (two (seq2 (M.pure (.val (.int 0))) (binF subG (seqP 4 (pk 1)))))) (pk 4)))) (nmT 11) (M.pure true) ((consA (M.pure (.val (.int 0))) (consA (rd 11) (nilA))).bind tupM)))
    (seqS (setS 6 (lcF [11] (rngI2 (two (seq2 (binF addG (seqP 4 (M.pure (.val (.int 1))))) (biF min2F (two (seqP 0 (binF addG (seq2 (binF addG (seqP 4 (pk 1))) (M.pure (.val (.int 1))))))))))) (nmT 11) (M.pure true) ((consA (M.pure (.val (.int 0))) (consA (rd 11) (nilA))).bind tupM)))
    (seqS (setS 7 ((consA (callF [none, none, none] (consA (rd 3) (consA (M.pure (.val (.str (PySem.Str.ofString "weno")))) (consA (M.pure (.val (.int 0))) (nilA)))) [false, false, false] k_shade) (consA (callF [none, none, none] (consA (rd 3) (consA (M.pure (.val (.str (PySem.Str.ofString "weno")))) (consA (M.pure (.val (.int 1))) (nilA)))) [false, false, false] k_shade) (consA (callF [none, none, none] (consA (rd 3) (consA (M.pure (.val (.str (PySem.Str.ofString "weno")))) (consA (M.pure (.val (.int 2))) (nilA)))) [false, false, false] k_shade) (consA (callF [none, none, none] (consA (rd 3) (consA (M.pure (.val (.str (PySem.Str.ofString "weno")))) (consA (M.pure (.val (.int 3))) (nilA)))) [false, false, false] k_shade) (nilA))))).bind lstM))
    (seqS (iteM (notB ((callF [none, none] (consA (rd 7) (consA (frzM ((consA (rd 5) (consA (rd 6) (consA ((nilA).bind lstM) (consA ((nilA).bind lstM) (nilA))))).bind lstM)) (nilA))) [false, false] (k__law_alike 6)).bind asB)) (retS (M.pure (.val (.bl false)))) (M.pure .nx))
    (seqS (setS 8 ((consA ((consA ((consA (M.pure (.val (.int 0))) (consA (rd 2) (nilA))).bind tupM) (consA (M.pure (.val (.str (PySem.Str.ofString "near")))) (nilA))).bind tupM) (nilA)).bind tupM))
    (seqS (iteM (orB (cmpF eqC (seqP 2 (pk 4))) (notB ((callF [none, none] (consA (callF [none, none, none, none] (consA (rd 3) (consA (M.pure (.val (.str (PySem.Str.ofString "no")))) (consA (rd 8) (consA (binF powG (seq2 (M.pure (.val (.int 10))) (M.pure (.val (.int 18))))) (nilA))))) [false, false, false, false] k_seated) (consA ((consA ((consA (M.pure (.val (.int 0))) (consA (rd 2) (nilA))).bind tupM) (nilA)).bind tupM) (nilA))) [false, false] (k__law_alike 6)).bind asB))) (retS (blO (cmpF eqC (seqP 2 (pk 4))))) (M.pure .nx))
    (seqS (setS 9 ((consA ((consA ((consA (M.pure (.val (.int 0))) (consA (rd 2) (nilA))).bind tupM) (nilA)).bind tupM) (consA ((consA (binF idxE (seqP 5 (M.pure (.val (.int (-1)))))) (nilA)).bind tupM) (consA ((consA (binF idxE (seqP 6 (M.pure (.val (.int 0))))) (nilA)).bind tupM) (nilA)))).bind lstM))
    (seqS (iteM (cmpF ltC (seqP 2 (pk 4))) (setS 9 ((consA ((consA ((consA (M.pure (.val (.int 0))) (consA (rd 2) (nilA))).bind tupM) (nilA)).bind tupM) (consA ((consA (iteM (cmpF inE (seq2 ((consA (M.pure (.val (.int 0))) (consA (rd 2) (nilA))).bind tupM) (pk 5))) ((consA (M.pure (.val (.int 0))) (consA (rd 2) (nilA))).bind tupM) (binF idxE (seqP 5 (M.pure (.val (.int 0)))))) (nilA)).bind tupM) (consA ((consA (binF idxE (seqP 6 (M.pure (.val (.int 0))))) (nilA)).bind tupM) (nilA)))).bind lstM)) (M.pure .nx))
    (seqS (setS 10 (lcF [11] (rngI1 (one (M.pure (.val (.int 3))))) (nmT 11) (M.pure true) (callF [none, none, none, none] (consA (rd 3) (consA (M.pure (.val (.str (PySem.Str.ofString "we")))) (consA (rd 8) (consA (rd 11) (nilA))))) [false, false, false, false] k_seated)))
    (seqS (iteM (orB (notB ((callF [none, none] (consA (rd 10) (consA (rd 9) (nilA))) [false, false] (k__law_alike 6)).bind asB)) (cmpF neC (seq2 (callF [none, none, none] (consA (rd 3) (consA (M.pure (.val (.str (PySem.Str.ofString "we")))) (consA (rd 8) (nilA)))) [false, false, false] k_restless) ((consA (M.pure (.val (.int 0))) (nilA)).bind lstM)))) (retS (M.pure (.val (.bl false)))) (M.pure .nx))
    (seqS (iteM (orB (notB ((callF [none, none] (consA (binF idxE (seq2 (binF idxE (seq2 (callF [none, none, none] (consA (rd 3) (consA (M.pure (.val (.str (PySem.Str.ofString "we")))) (consA (rd 8) (nilA)))) [false, false, false] k_scorched) (M.pure (.val (.int 0))))) (M.pure (.val (.int 1))))) (consA (M.pure (.val (.int 0))) (nilA))) [false, false] (k__law_alike 6)).bind asB)) (notB ((callF [none, none] (consA (callF [none, none, none] (consA (rd 3) (consA (M.pure (.val (.str (PySem.Str.ofString "o")))) (consA (rd 8) (nilA)))) [false, false, false] k_scorched) (consA ((consA ((consA (M.pure (.val (.int 0))) (consA (M.pure (.val (.int 1))) (nilA))).bind tupM) (nilA)).bind lstM) (nilA))) [false, false] (k__law_alike 6)).bind asB))) (retS (M.pure (.val (.bl false)))) (M.pure .nx))
    (retS (blO (cmpF eqC (seq2 (k__law_word (callF [none, none, none] (consA (rd 3) (consA (M.pure (.val (.str (PySem.Str.ofString "o")))) (consA (rd 8) (nilA)))) [false, false, false] k_paper)) ((consA (M.pure (.val (.str (PySem.Str.ofString "insun")))) (consA (M.pure (.val (.int 0))) (nilA))).bind tupM))))))))))))))))
def k__law_lane : M O := defM 12 kb__law_lane
theorem kq__law_lane : m__law_lane = k__law_lane := by
  unfold m__law_lane k__law_lane b__law_lane kb__law_lane
  simp only [kq_shade, kq__law_alike, kq_seated, kq_restless, kq_scorched, kq__law_word, kq_paper]
def kb_need_paper : M Out :=
  seqS (iteM (notB ((biF isiF (two (seqP 3 (M.pure (.val (.ty "list")))))).bind asB)) (M.stuck) (M.pure .nx))
    ((enI (rd 3)).bind fun ds => forL (tupT 2 (consT (nmT 4) (consT (nmT 5) (nilT)))) (seqS (setS 6 (blO (andB ((biF isiF (two (seqP 5 (M.pure (.val (.ty "tuple")))))).bind asB) (andB (cmpF eqC (seq2 (biF lenF (one (pk 5))) (M.pure (.val (.int 2))))) ((callF [none, none, none] (consA (binF idxE (seqP 5 (M.pure (.val (.int 0))))) (consA (M.pure (.val (.int 0))) (consA (binF subG (seq2 (biF lenF (one (pk 1))) (M.pure (.val (.int 1))))) (nilA)))) [false, false, false] k_is_number).bind asB)))))
    (seqS (iteM (orB (notB ((pk 6).bind asB)) (orB (notB ((biF isiF (two (seq2 (binF idxE (seqP 5 (M.pure (.val (.int 1))))) (M.pure (.val (.ty "tuple")))))).bind asB)) (cmpF neC (seq2 (biF lenF (one (binF idxE (seqP 5 (M.pure (.val (.int 1))))))) (biF lenF (one (pk 2))))))) (M.stuck) (M.pure .nx))
    (iteM (notB ((biF allF (one (lcF [7] (seqI (binF idxE (seqP 5 (M.pure (.val (.int 1)))))) (nmT 7) (M.pure true) (callF [none, none] (consA (rd 7) (consA (rd 0) (nilA))) [false, false] k_is_cell)))).bind asB)) (M.stuck) (M.pure .nx)))) ds)
def k_need_paper : M O := defM 8 kb_need_paper
theorem kq_need_paper : m_need_paper = k_need_paper := by
  unfold m_need_paper k_need_paper b_need_paper kb_need_paper
  simp only [kq_is_number, kq_is_cell]
def kb_shows : M Out :=
  seqS (exprS (callF [none, none, none] (consA (rd 0) (consA (rd 1) (consA (rd 2) (nilA)))) [false, false, false] k_need_all))
    (seqS (exprS (callF [none, none, none, none] (consA (rd 0) (consA (rd 1) (consA (rd 2) (consA (rd 3) (nilA))))) [false, false, false, false] k_need_paper))
    (seqS (setS 4 (dcF [9] (seqI (rd 3)) (nmT 9) (M.pure true) (rd 9) (M.pure (.val (.bl true)))))
    (seqS (iteM (cmpF ninE (seq2 ((consA (M.pure (.val (.int 0))) (consA (callF [none] (consA (rd 2) (nilA)) [false] k_seats_of) (nilA))).bind tupM) (pk 4))) (retS (M.pure (.val (.bl false)))) (M.pure .nx))
    (seqS ((seqI (rd 3)).bind fun ds => forL (tupT 2 (consT (nmT 5) (consT (nmT 6) (nilT)))) (seqS (setS 7 (biF tupF (one (lcF [10, 11, 12] (zipI (consA (rd 6) (consA (rd 2) (nilA)))) (tupT 2 (consT (nmT 10) (consT (tupT 2 (consT (nmT 11) (consT (nmT 12) (nilT)))) (nilT)))) (M.pure true) ((consA (rd 10) (consA (rd 12) (nilA))).bind tupM)))))
    (seqS (setS 8 (callF [none, none, none] (consA (rd 0) (consA (binF idxE (seqP 1 (pk 5))) (consA (rd 7) (nilA)))) [false, false, false] k_moved))
    (iteM (orB (cmpF neC (seq2 (callF [none, none, none] (consA (rd 0) (consA (binF idxE (seqP 1 (pk 5))) (consA (rd 8) (nilA)))) [false, false, false] k_suns_of) ((nilA).bind lstM))) (cmpF ninE (seq2 ((consA (binF modG (seq2 (binF addG (seqP 5 (M.pure (.val (.int 1))))) (biF lenF (one (pk 1))))) (consA (callF [none] (consA (rd 8) (nilA)) [false] k_seats_of) (nilA))).bind tupM) (pk 4)))) (retS (M.pure (.val (.bl false)))) (M.pure .nx)))) ds)
    (retS (M.pure (.val (.bl true))))))))
def k_shows : M O := defM 13 kb_shows
theorem kq_shows : m_shows = k_shows := by
  unfold m_shows k_shows b_shows kb_shows
  simp only [kq_need_all, kq_need_paper, kq_seats_of, kq_moved, kq_suns_of]
def kb_parted : M Out :=
  seqS (exprS (callF [none] (consA (rd 0) (nilA)) [false] k_need_floor))
    (seqS (exprS (callF [none] (consA (rd 1) (nilA)) [false] k_need_floor))
    (seqS (exprS (callF [none] (consA (rd 2) (nilA)) [false] k_need_sun))
    (seqS ((enI (rd 2)).bind fun ds => forL (tupT 2 (consT (nmT 3) (consT (nmT 4) (nilT)))) (seqS (par2 5 6 (consA (callF [none, none] (consA (rd 0) (consA (rd 4) (nilA))) [false, false] k_shaded) (consA (callF [none, none] (consA (rd 1) (consA (rd 4) (nilA))) [false, false] k_shaded) (nilA))))
    (seqS (setS 7 (lcF [8] (seqI (binF addG (seq2 (callF [none] (consA (rd 0) (nilA)) [false] k_all_cells) (callF [none] (consA (rd 1) (nilA)) [false] k_all_cells)))) (nmT 8) (cmpF neC (seq2 (blO (cmpF inE (seqP 8 (pk 5)))) (blO (cmpF inE (seqP 8 (pk 6)))))) (rd 8)))
    (iteM (cmpF neC (seqP 7 ((nilA).bind lstM))) (retS ((consA (rd 3) (consA (biF minF (one (pk 7))) (nilA))).bind tupM)) (M.pure .nx)))) ds)
    (retS (M.pure (.val .non))))))
def k_parted : M O := defM 9 kb_parted
theorem kq_parted : m_parted = k_parted := by
  unfold m_parted k_parted b_parted kb_parted
  simp only [kq_need_floor, kq_need_sun, kq_shaded, kq_all_cells]
def kb_chosen (m : M O) : M Out :=
  seqS (iteM (cmpF eqC (seqP 1 (M.pure (.val (.int 0))))) (retS ((consA ((nilA).bind tupM) (nilA)).bind lstM)) (M.pure .nx))
    (seqS (setS 2 ((nilA).bind lstM))
    (seqS ((enI (rd 0)).bind fun ds => forL (tupT 2 (consT (nmT 3) (consT (nmT 4) (nilT)))) (exprS (extF 2 (lcF [5] (seqI (callF [none, none] (consA (sliP 0 ((binF addG (seqP 3 (M.pure (.val (.int 1))))).bind asI) (M.pure none)) (consA (binF subG (seqP 1 (M.pure (.val (.int 1))))) (nilA))) [false, false] m)) (nmT 5) (M.pure true) (binF addG (seq2 ((consA (rd 4) (nilA)).bind tupM) (pk 5)))))) ds)
    (retS (rd 2))))
def k_chosen : Nat → M O
  | 0 => M.stuck
  | n + 1 => defM 6 (kb_chosen (k_chosen n))
theorem kb_chosen_eq (m : M O) : b_chosen m = kb_chosen m := by
  unfold b_chosen kb_chosen
  rfl
theorem kq_chosen : m_chosen = k_chosen := by
  funext n
  induction n with
  | zero => rfl
  | succ n ih => rw [m_chosen, k_chosen, ih, kb_chosen_eq]
def kb_awnings : M Out :=
  seqS (exprS (callF [none, none, none] (consA (rd 0) (consA (rd 1) (consA (rd 2) (nilA)))) [false, false, false] k_need_all))
    (seqS (exprS (callF [none, none, none] (consA (rd 3) (consA (M.pure (.val (.int 0))) (consA (M.pure (.val (.int 3))) (nilA)))) [false, false, false] k_need_count))
    (seqS (setS 4 (lcF [7] (seqI (callF [none] (consA (rd 0) (nilA)) [false] k_all_cells)) (nmT 7) (cmpF ninE (seqP 7 (binF idxE (seqP 0 (M.pure (.val (.int 3))))))) (rd 7)))
    (seqS ((rngI1 (one (binF addG (seqP 3 (M.pure (.val (.int 1))))))).bind fun ds => forL (nmT 5) ((seqI (callF [none, none] (consA (rd 4) (consA (rd 5) (nilA))) [false, false] (k_chosen 5))).bind fun ds => forL (nmT 6) (iteM (cmpF isC (seq2 (callF [none, none, none] (consA (binF addG (seq2 (sliP 0 (M.pure none) ((M.pure (.val (.int 3))).bind asI)) ((consA (binF addG (seq2 (binF idxE (seqP 0 (M.pure (.val (.int 3))))) (pk 6))) (nilA)).bind tupM))) (consA (rd 1) (consA (rd 2) (nilA)))) [false, false, false] k_first_in_sun) (M.pure (.val .non)))) (retS (rd 6)) (M.pure .nx)) ds) ds)
    (retS (M.pure (.val .non))))))
def k_awnings : M O := defM 8 kb_awnings
theorem kq_awnings : m_awnings = k_awnings := by
  unfold m_awnings k_awnings b_awnings kb_awnings
  simp only [kq_need_all, kq_need_count, kq_all_cells, kq_chosen, kq_first_in_sun]
def kb_need_told : M Out :=
  seqS (iteM (notB ((biF isiF (two (seqP 2 (M.pure (.val (.ty "tuple")))))).bind asB)) (M.stuck) (M.pure .nx))
    ((enI (rd 2)).bind fun ds => forL (tupT 2 (consT (nmT 3) (consT (nmT 4) (nilT)))) (seqS (setS 5 (blO (andB (cmpF ltC (seqP 3 (M.pure (.val (.int 6))))) (andB ((biF isiF (two (seqP 4 (M.pure (.val (.ty "tuple")))))).bind asB) (cmpF eqC (seq2 (biF lenF (one (pk 4))) (biF lenF (one (pk 1)))))))))
    (iteM (orB (notB ((pk 5).bind asB)) (notB ((biF allF (one (lcF [6] (seqI (rd 4)) (nmT 6) (M.pure true) (callF [none, none] (consA (rd 6) (consA (rd 0) (nilA))) [false, false] k_is_cell)))).bind asB))) (M.stuck) (M.pure .nx))) ds)
def k_need_told : M O := defM 7 kb_need_told
theorem kq_need_told : m_need_told = k_need_told := by
  unfold m_need_told k_need_told b_need_told kb_need_told
  simp only [kq_is_cell]
def kb_suns : M Out :=
  seqS (exprS (callF [none] (consA (rd 0) (nilA)) [false] k_need_floor))
    (seqS (exprS (callF [none, none] (consA (rd 0) (consA (rd 1) (nilA))) [false, false] k_need_folk))
    (seqS (exprS (callF [none, none, none] (consA (rd 0) (consA (rd 1) (consA (rd 2) (nilA)))) [false, false, false] k_need_told))
    (seqS (setS 3 ((consA ((consA (M.pure (.val (.str (PySem.Str.ofString "")))) (consA (rd 1) (nilA))).bind tupM) (nilA)).bind lstM))
    (seqS ((seqI (rd 2)).bind fun ds => forL (nmT 4) (seqS (setS 5 ((nilA).bind lstM))
    (seqS ((seqI (rd 3)).bind fun ds => forL (tupT 2 (consT (nmT 6) (consT (nmT 7) (nilT)))) ((seqI (M.pure (.lst ((srtE ([(PySem.Str.ofString "e"), (PySem.Str.ofString "n"), (PySem.Str.ofString "o"), (PySem.Str.ofString "s"), (PySem.Str.ofString "w")].map D.str)).map O.val)))).bind fun ds => forL (nmT 8) (seqS (setS 9 (callF [none, none, none] (consA (rd 0) (consA (rd 8) (consA (rd 7) (nilA)))) [false, false, false] k_moved))
    (iteM (cmpF eqC (seq2 (callF [none] (consA (rd 9) (nilA)) [false] k_seats_of) (pk 4))) (exprS (appF 5 ((consA (binF addG (seqP 6 (pk 8))) (consA (rd 9) (nilA))).bind tupM))) (M.pure .nx))) ds) ds)
    (setS 3 (rd 5)))) ds)
    (retS (lcF [6, 7] (seqI (rd 3)) (tupT 2 (consT (nmT 6) (consT (nmT 7) (nilT)))) (M.pure true) (rd 6)))))))
def k_suns : M O := defM 10 kb_suns
theorem kq_suns : m_suns = k_suns := by
  unfold m_suns k_suns b_suns kb_suns
  simp only [kq_need_floor, kq_need_folk, kq_need_told, kq_moved, kq_seats_of, srtE_eq]
def kb_need_rule : M Out :=
  iteM (orB (notB ((biF isiF (two (seqP 0 (M.pure (.val (.ty "str")))))).bind asB)) (cmpF ninE (seqP 0 (M.pure (.val d_RULES))))) (M.stuck) (M.pure .nx)
def k_need_rule : M O := defM 1 kb_need_rule
theorem kq_need_rule : m_need_rule = k_need_rule := by
  unfold m_need_rule k_need_rule b_need_rule kb_need_rule
  rfl
def kb_free_cells : M Out :=
  seqS (setS 1 (lcF [2] (seqI (binF idxE (seqP 0 (M.pure (.val (.int 2)))))) (nmT 2) (M.pure true) (sliP 2 (M.pure none) ((M.pure (.val (.int 2))).bind asI))))
    (retS (lcF [3] (seqI (callF [none] (consA (rd 0) (nilA)) [false] k_all_cells)) (nmT 3) (cmpF ninE (seqP 3 (pk 1))) (rd 3)))
def k_free_cells : M O := defM 4 kb_free_cells
theorem kq_free_cells : m_free_cells = k_free_cells := by
  unfold m_free_cells k_free_cells b_free_cells kb_free_cells
  simp only [kq_all_cells]
def kb_parting : M Out :=
  seqS (exprS (callF [none] (consA (rd 0) (nilA)) [false] k_need_floor))
    (seqS (exprS (callF [none] (consA (rd 1) (nilA)) [false] k_need_sun))
    (seqS (exprS (callF [none] (consA (rd 2) (nilA)) [false] k_need_rule))
    (seqS (exprS (callF [none] (consA (rd 3) (nilA)) [false] k_need_rule))
    (seqS (setS 4 (M.pure (.val .non)))
    (seqS ((seqI (callF [none] (consA (rd 0) (nilA)) [false] k_free_cells)).bind fun ds => forL (nmT 5) (seqS (par2 6 7 (consA (frzM (makeF 0 (consA (rd 0) (consA (rd 1) (consA ((consA ((consA (rd 5) (consA (rd 2) (nilA))).bind tupM) (nilA)).bind tupM) (nilA)))) k_Course_init)) (consA (frzM (makeF 0 (consA (rd 0) (consA (rd 1) (consA ((consA ((consA (rd 5) (consA (rd 3) (nilA))).bind tupM) (nilA)).bind tupM) (nilA)))) k_Course_init)) (nilA))))
    (seqS (setS 8 (binF addG (seq2 (biF max2F (two (seq2 (fldE 0 (PySem.Str.ofString "tail") (pk 6)) (fldE 0 (PySem.Str.ofString "tail") (pk 7))))) (binF mulG (seq2 (fldE 0 (PySem.Str.ofString "turn") (pk 6)) (fldE 0 (PySem.Str.ofString "turn") (pk 7)))))))
    (seqS (setS 9 (sliF (lcF [10] (rngI1 (one (binF addG (seqP 8 (M.pure (.val (.int 1))))))) (nmT 10) (cmpF neC (seq2 (callF [none] (consA (callF [none, none] (consA (chkM 0 (PySem.Str.ofString "at") (rd 6)) (consA (rd 10) (nilA))) [false, false] k_Course_at) (nilA)) [false] k_seats_of) (callF [none] (consA (callF [none, none] (consA (chkM 0 (PySem.Str.ofString "at") (rd 7)) (consA (rd 10) (nilA))) [false, false] k_Course_at) (nilA)) [false] k_seats_of))) (rd 10)) (M.pure none) ((M.pure (.val (.int 1))).bind asI)))
    (iteM (andB (cmpF neC (seqP 9 ((nilA).bind lstM))) (orB (cmpF isC (seqP 4 (M.pure (.val .non)))) (cmpF ltC (seq2 (binF idxE (seqP 9 (M.pure (.val (.int 0))))) (binF idxE (seqP 4 (M.pure (.val (.int 0))))))))) (setS 4 ((consA (binF idxE (seqP 9 (M.pure (.val (.int 0))))) (consA (rd 5) (nilA))).bind tupM)) (M.pure .nx))))) ds)
    (retS (rd 4)))))))
def k_parting : M O := defM 11 kb_parting
theorem kq_parting : m_parting = k_parting := by
  unfold m_parting k_parting b_parting kb_parting
  simp only [kq_need_floor, kq_need_sun, kq_need_rule, kq_free_cells, kq_Course_init, kq_Course_at, kq_seats_of]
def kb_course : M Out :=
  seqS (exprS (callF [none, none, none] (consA (rd 0) (consA (rd 1) (consA (rd 2) (nilA)))) [false, false, false] k_need_all))
    (seqS (setS 3 (frzM (makeF 0 (consA (rd 0) (consA (rd 1) (consA (rd 2) (nilA)))) k_Course_init)))
    (retS ((consA (fldE 0 (PySem.Str.ofString "tail") (pk 3)) (consA (fldE 0 (PySem.Str.ofString "turn") (pk 3)) (consA (lcF [4] (seqI (fldE 0 (PySem.Str.ofString "rows") (pk 3))) (nmT 4) (M.pure true) (callF [none] (consA (rd 4) (nilA)) [false] k_seats_of)) (nilA)))).bind tupM)))
def k_course : M O := defM 5 kb_course
theorem kq_course : m_course = k_course := by
  unfold m_course k_course b_course kb_course
  simp only [kq_need_all, kq_Course_init, kq_seats_of]
def kb__law_cloth : M Out :=
  seqS (par2 1 2 (consA ((consA (M.pure (.val (.int 3))) (consA (M.pure (.val (.int 3))) (consA ((nilA).bind tupM) (consA ((consA (rd 0) (nilA)).bind tupM) (nilA))))).bind tupM) (consA ((consA ((consA (rd 0) (consA (M.pure (.val (.str (PySem.Str.ofString "stay")))) (nilA))).bind tupM) (nilA)).bind tupM) (nilA))))
    (seqS (iteM (orB (notB ((callF [none, none] (consA (callF [none, none, none] (consA (rd 1) (consA (M.pure (.val (.str (PySem.Str.ofString "o")))) (consA (rd 2) (nilA)))) [false, false, false] k_paper) (consA ((consA ((consA (M.pure (.val (.int 0))) (consA ((consA (rd 0) (nilA)).bind tupM) (nilA))).bind tupM) (nilA)).bind lstM) (nilA))) [false, false] (k__law_alike 6)).bind asB)) (cmpF isNC (seq2 (callF [none, none, none, none] (consA (rd 1) (consA (M.pure (.val (.str (PySem.Str.ofString "o")))) (consA (rd 2) (consA ((consA ((consA (M.pure (.val (.int 0))) (consA ((consA (rd 0) (nilA)).bind tupM) (nilA))).bind tupM) (nilA)).bind lstM) (nilA))))) [false, false, false, false] k_shows) (M.pure (.val (.bl true)))))) (retS (M.pure (.val (.bl false)))) (M.pure .nx))
    (seqS (iteM (notB ((callF [none, none] (consA (frzM ((consA (callF [none, none, none] (consA (rd 1) (consA (M.pure (.val (.str (PySem.Str.ofString "osenw")))) (consA (M.pure (.val (.int 0))) (nilA)))) [false, false, false] k_shade) (consA (callF [none, none, none] (consA (rd 1) (consA ((consA (M.pure (.val (.int 3))) (consA (M.pure (.val (.int 3))) (consA ((nilA).bind tupM) (consA ((nilA).bind tupM) (nilA))))).bind tupM) (consA (M.pure (.val (.str (PySem.Str.ofString "o")))) (nilA)))) [false, false, false] k_parted) (nilA))).bind lstM)) (consA (frzM ((consA ((consA (rd 0) (nilA)).bind lstM) (consA ((consA (M.pure (.val (.int 0))) (consA (rd 0) (nilA))).bind tupM) (nilA))).bind lstM)) (nilA))) [false, false] (k__law_alike 6)).bind asB)) (retS (M.pure (.val (.bl false)))) (M.pure .nx))
    (seqS (setS 3 ((consA (M.pure (.val (.int 3))) (consA (M.pure (.val (.int 3))) (consA ((nilA).bind tupM) (consA ((nilA).bind tupM) (nilA))))).bind tupM))
    (seqS (iteM (orB (cmpF neC (seq2 (callF [none, none, none, none] (consA (rd 3) (consA (M.pure (.val (.str (PySem.Str.ofString "o")))) (consA (rd 2) (consA (M.pure (.val (.int 1))) (nilA))))) [false, false, false, false] k_awnings) ((consA (rd 0) (nilA)).bind tupM))) (cmpF isNC (seq2 (callF [none, none, none, none] (consA (rd 3) (consA (M.pure (.val (.str (PySem.Str.ofString "o")))) (consA (rd 2) (consA (M.pure (.val (.int 0))) (nilA))))) [false, false, false, false] k_awnings) (M.pure (.val .non))))) (retS (M.pure (.val (.bl false)))) (M.pure .nx))
    (seqS (setS 4 ((consA (binF modG (seq2 (binF addG (seq2 (binF idxE (seqP 0 (M.pure (.val (.int 0))))) (M.pure (.val (.int 1))))) (M.pure (.val (.int 3))))) (consA (binF idxE (seqP 0 (M.pure (.val (.int 1))))) (nilA))).bind tupM))
    (seqS (setS 5 (callF [none, none, none, none] (consA (rd 3) (consA (M.pure (.val (.str (PySem.Str.ofString "o")))) (consA ((consA ((consA (rd 0) (consA (M.pure (.val (.str (PySem.Str.ofString "stay")))) (nilA))).bind tupM) (consA ((consA (rd 4) (consA (M.pure (.val (.str (PySem.Str.ofString "stay")))) (nilA))).bind tupM) (nilA))).bind tupM) (consA (M.pure (.val (.int 3))) (nilA))))) [false, false, false, false] k_awnings))
    (seqS (iteM (orB (cmpF neC (seqP 5 (biF tupF (one (biF srtK (one ((consA (rd 0) (consA (rd 4) (nilA))).bind lstM))))))) (cmpF isNC (seq2 (callF [none, none, none, none] (consA (rd 3) (consA (M.pure (.val (.str (PySem.Str.ofString "o")))) (consA ((consA ((consA (rd 0) (consA (M.pure (.val (.str (PySem.Str.ofString "stay")))) (nilA))).bind tupM) (consA ((consA (rd 4) (consA (M.pure (.val (.str (PySem.Str.ofString "stay")))) (nilA))).bind tupM) (nilA))).bind tupM) (consA (M.pure (.val (.int 1))) (nilA))))) [false, false, false, false] k_awnings) (M.pure (.val .non))))) (retS (M.pure (.val (.bl false)))) (M.pure .nx))
    (seqS (iteM (orB (notB ((callF [none, none] (consA (callF [none, none, none] (consA (rd 3) (consA (rd 2) (consA ((consA ((consA (rd 0) (nilA)).bind tupM) (nilA)).bind tupM) (nilA)))) [false, false, false] k_suns) (consA ((consA (M.pure (.val (.str (PySem.Str.ofString "e")))) (consA (M.pure (.val (.str (PySem.Str.ofString "n")))) (consA (M.pure (.val (.str (PySem.Str.ofString "o")))) (consA (M.pure (.val (.str (PySem.Str.ofString "s")))) (consA (M.pure (.val (.str (PySem.Str.ofString "w")))) (nilA)))))).bind lstM) (nilA))) [false, false] (k__law_alike 6)).bind asB)) (cmpF neC (seq2 (callF [none, none, none] (consA (rd 3) (consA (rd 2) (consA ((consA ((consA (rd 4) (nilA)).bind tupM) (nilA)).bind tupM) (nilA)))) [false, false, false] k_suns) ((nilA).bind lstM)))) (retS (M.pure (.val (.bl false)))) (M.pure .nx))
    (seqS (setS 6 ((consA (M.pure (.val .non)) (consA ((consA (M.pure (.val (.int 0))) (consA (M.pure (.val (.int 2))) (consA ((consA ((consA (rd 0) (nilA)).bind tupM) (consA ((consA (rd 0) (nilA)).bind tupM) (nilA))).bind lstM) (nilA)))).bind tupM) (nilA))).bind lstM))
    (retS (callF [none, none] (consA (frzM ((consA (callF [none, none, none, none] (consA (rd 3) (consA (M.pure (.val (.str (PySem.Str.ofString "o")))) (consA (M.pure (.val (.str (PySem.Str.ofString "near")))) (consA (M.pure (.val (.str (PySem.Str.ofString "first")))) (nilA))))) [false, false, false, false] k_parting) (consA (callF [none, none, none] (consA (rd 3) (consA (M.pure (.val (.str (PySem.Str.ofString "on")))) (consA (rd 2) (nilA)))) [false, false, false] k_course) (nilA))).bind lstM)) (consA (rd 6) (nilA))) [false, false] (k__law_alike 6))))))))))))
def k__law_cloth : M O := defM 7 kb__law_cloth
theorem kq__law_cloth : m__law_cloth = k__law_cloth := by
  unfold m__law_cloth k__law_cloth b__law_cloth kb__law_cloth
  simp only [kq_paper, kq__law_alike, kq_shows, kq_shade, kq_parted, kq_awnings, kq_suns, kq_parting, kq_course, srtK_eq]
end G

set_option Elab.async false
set_option linter.all false
set_option maxRecDepth 1000000
set_option maxHeartbeats 0
namespace G
open PySem PySem.Spec PyProof.Rows L2 PF
def isT : Option (Rz O × Sls) → Bool
  | some (.ok (.val (.bl true)), _) => true
  | _ => false
theorem isT_ok {r : Option (Rz O × Sls)} (h : isT r = true) : ∃ ρ, r = some (.ok (.val (.bl true)), ρ) := by
  unfold isT at h
  split at h
  · exact ⟨_, rfl⟩
  · cases h
theorem lane_310 : isT (k__law_lane [some (.val (.int 3)), some (.val (.int 1)), some (.val (.int 0))]) = true := by decide +kernel
theorem lane_311 : isT (k__law_lane [some (.val (.int 3)), some (.val (.int 1)), some (.val (.int 1))]) = true := by decide +kernel
theorem lane_312 : isT (k__law_lane [some (.val (.int 3)), some (.val (.int 1)), some (.val (.int 2))]) = true := by decide +kernel
theorem lane_320 : isT (k__law_lane [some (.val (.int 3)), some (.val (.int 2)), some (.val (.int 0))]) = true := by decide +kernel
theorem lane_321 : isT (k__law_lane [some (.val (.int 3)), some (.val (.int 2)), some (.val (.int 1))]) = true := by decide +kernel
theorem lane_322 : isT (k__law_lane [some (.val (.int 3)), some (.val (.int 2)), some (.val (.int 2))]) = true := by decide +kernel
theorem lane_330 : isT (k__law_lane [some (.val (.int 3)), some (.val (.int 3)), some (.val (.int 0))]) = true := by decide +kernel
theorem lane_331 : isT (k__law_lane [some (.val (.int 3)), some (.val (.int 3)), some (.val (.int 1))]) = true := by decide +kernel
theorem lane_332 : isT (k__law_lane [some (.val (.int 3)), some (.val (.int 3)), some (.val (.int 2))]) = true := by decide +kernel
theorem lane_340 : isT (k__law_lane [some (.val (.int 3)), some (.val (.int 4)), some (.val (.int 0))]) = true := by decide +kernel
theorem lane_341 : isT (k__law_lane [some (.val (.int 3)), some (.val (.int 4)), some (.val (.int 1))]) = true := by decide +kernel
theorem lane_342 : isT (k__law_lane [some (.val (.int 3)), some (.val (.int 4)), some (.val (.int 2))]) = true := by decide +kernel
theorem lane_410 : isT (k__law_lane [some (.val (.int 4)), some (.val (.int 1)), some (.val (.int 0))]) = true := by decide +kernel
theorem lane_411 : isT (k__law_lane [some (.val (.int 4)), some (.val (.int 1)), some (.val (.int 1))]) = true := by decide +kernel
theorem lane_412 : isT (k__law_lane [some (.val (.int 4)), some (.val (.int 1)), some (.val (.int 2))]) = true := by decide +kernel
theorem lane_413 : isT (k__law_lane [some (.val (.int 4)), some (.val (.int 1)), some (.val (.int 3))]) = true := by decide +kernel
theorem lane_420 : isT (k__law_lane [some (.val (.int 4)), some (.val (.int 2)), some (.val (.int 0))]) = true := by decide +kernel
theorem lane_421 : isT (k__law_lane [some (.val (.int 4)), some (.val (.int 2)), some (.val (.int 1))]) = true := by decide +kernel
theorem lane_422 : isT (k__law_lane [some (.val (.int 4)), some (.val (.int 2)), some (.val (.int 2))]) = true := by decide +kernel
theorem lane_423 : isT (k__law_lane [some (.val (.int 4)), some (.val (.int 2)), some (.val (.int 3))]) = true := by decide +kernel
theorem lane_430 : isT (k__law_lane [some (.val (.int 4)), some (.val (.int 3)), some (.val (.int 0))]) = true := by decide +kernel
theorem lane_431 : isT (k__law_lane [some (.val (.int 4)), some (.val (.int 3)), some (.val (.int 1))]) = true := by decide +kernel
theorem lane_432 : isT (k__law_lane [some (.val (.int 4)), some (.val (.int 3)), some (.val (.int 2))]) = true := by decide +kernel
theorem lane_433 : isT (k__law_lane [some (.val (.int 4)), some (.val (.int 3)), some (.val (.int 3))]) = true := by decide +kernel
theorem lane_440 : isT (k__law_lane [some (.val (.int 4)), some (.val (.int 4)), some (.val (.int 0))]) = true := by decide +kernel
theorem lane_441 : isT (k__law_lane [some (.val (.int 4)), some (.val (.int 4)), some (.val (.int 1))]) = true := by decide +kernel
theorem lane_442 : isT (k__law_lane [some (.val (.int 4)), some (.val (.int 4)), some (.val (.int 2))]) = true := by decide +kernel
theorem lane_443 : isT (k__law_lane [some (.val (.int 4)), some (.val (.int 4)), some (.val (.int 3))]) = true := by decide +kernel
theorem lane_510 : isT (k__law_lane [some (.val (.int 5)), some (.val (.int 1)), some (.val (.int 0))]) = true := by decide +kernel
theorem lane_511 : isT (k__law_lane [some (.val (.int 5)), some (.val (.int 1)), some (.val (.int 1))]) = true := by decide +kernel
theorem lane_512 : isT (k__law_lane [some (.val (.int 5)), some (.val (.int 1)), some (.val (.int 2))]) = true := by decide +kernel
theorem lane_513 : isT (k__law_lane [some (.val (.int 5)), some (.val (.int 1)), some (.val (.int 3))]) = true := by decide +kernel
theorem lane_514 : isT (k__law_lane [some (.val (.int 5)), some (.val (.int 1)), some (.val (.int 4))]) = true := by decide +kernel
theorem lane_520 : isT (k__law_lane [some (.val (.int 5)), some (.val (.int 2)), some (.val (.int 0))]) = true := by decide +kernel
theorem lane_521 : isT (k__law_lane [some (.val (.int 5)), some (.val (.int 2)), some (.val (.int 1))]) = true := by decide +kernel
theorem lane_522 : isT (k__law_lane [some (.val (.int 5)), some (.val (.int 2)), some (.val (.int 2))]) = true := by decide +kernel
theorem lane_523 : isT (k__law_lane [some (.val (.int 5)), some (.val (.int 2)), some (.val (.int 3))]) = true := by decide +kernel
theorem lane_524 : isT (k__law_lane [some (.val (.int 5)), some (.val (.int 2)), some (.val (.int 4))]) = true := by decide +kernel
theorem lane_530 : isT (k__law_lane [some (.val (.int 5)), some (.val (.int 3)), some (.val (.int 0))]) = true := by decide +kernel
theorem lane_531 : isT (k__law_lane [some (.val (.int 5)), some (.val (.int 3)), some (.val (.int 1))]) = true := by decide +kernel
theorem lane_532 : isT (k__law_lane [some (.val (.int 5)), some (.val (.int 3)), some (.val (.int 2))]) = true := by decide +kernel
theorem lane_533 : isT (k__law_lane [some (.val (.int 5)), some (.val (.int 3)), some (.val (.int 3))]) = true := by decide +kernel
theorem lane_534 : isT (k__law_lane [some (.val (.int 5)), some (.val (.int 3)), some (.val (.int 4))]) = true := by decide +kernel
theorem lane_540 : isT (k__law_lane [some (.val (.int 5)), some (.val (.int 4)), some (.val (.int 0))]) = true := by decide +kernel
theorem lane_541 : isT (k__law_lane [some (.val (.int 5)), some (.val (.int 4)), some (.val (.int 1))]) = true := by decide +kernel
theorem lane_542 : isT (k__law_lane [some (.val (.int 5)), some (.val (.int 4)), some (.val (.int 2))]) = true := by decide +kernel
theorem lane_543 : isT (k__law_lane [some (.val (.int 5)), some (.val (.int 4)), some (.val (.int 3))]) = true := by decide +kernel
theorem lane_544 : isT (k__law_lane [some (.val (.int 5)), some (.val (.int 4)), some (.val (.int 4))]) = true := by decide +kernel
theorem lane_true {w h s : Int} (w0 : 3 ≤ w) (w1 : w < 6) (h0 : 1 ≤ h) (h1 : h < 5) (s0 : 0 ≤ s) (s1 : s < w) : isT (m__law_lane [some (.val (.int w)), some (.val (.int h)), some (.val (.int s))]) = true := by
  rw [kq__law_lane]
  have ew : w = 3 ∨ w = 4 ∨ w = 5 := by omega
  have eh : h = 1 ∨ h = 2 ∨ h = 3 ∨ h = 4 := by omega
  have es : s = 0 ∨ s = 1 ∨ s = 2 ∨ s = 3 ∨ s = 4 := by omega
  rcases ew with rfl | rfl | rfl
  · rcases eh with rfl | rfl | rfl | rfl
    · rcases es with rfl | rfl | rfl | rfl | rfl
      · exact lane_310
      · exact lane_311
      · exact lane_312
      · exact absurd s1 (by decide)
      · exact absurd s1 (by decide)
    · rcases es with rfl | rfl | rfl | rfl | rfl
      · exact lane_320
      · exact lane_321
      · exact lane_322
      · exact absurd s1 (by decide)
      · exact absurd s1 (by decide)
    · rcases es with rfl | rfl | rfl | rfl | rfl
      · exact lane_330
      · exact lane_331
      · exact lane_332
      · exact absurd s1 (by decide)
      · exact absurd s1 (by decide)
    · rcases es with rfl | rfl | rfl | rfl | rfl
      · exact lane_340
      · exact lane_341
      · exact lane_342
      · exact absurd s1 (by decide)
      · exact absurd s1 (by decide)
  · rcases eh with rfl | rfl | rfl | rfl
    · rcases es with rfl | rfl | rfl | rfl | rfl
      · exact lane_410
      · exact lane_411
      · exact lane_412
      · exact lane_413
      · exact absurd s1 (by decide)
    · rcases es with rfl | rfl | rfl | rfl | rfl
      · exact lane_420
      · exact lane_421
      · exact lane_422
      · exact lane_423
      · exact absurd s1 (by decide)
    · rcases es with rfl | rfl | rfl | rfl | rfl
      · exact lane_430
      · exact lane_431
      · exact lane_432
      · exact lane_433
      · exact absurd s1 (by decide)
    · rcases es with rfl | rfl | rfl | rfl | rfl
      · exact lane_440
      · exact lane_441
      · exact lane_442
      · exact lane_443
      · exact absurd s1 (by decide)
  · rcases eh with rfl | rfl | rfl | rfl
    · rcases es with rfl | rfl | rfl | rfl | rfl
      · exact lane_510
      · exact lane_511
      · exact lane_512
      · exact lane_513
      · exact lane_514
    · rcases es with rfl | rfl | rfl | rfl | rfl
      · exact lane_520
      · exact lane_521
      · exact lane_522
      · exact lane_523
      · exact lane_524
    · rcases es with rfl | rfl | rfl | rfl | rfl
      · exact lane_530
      · exact lane_531
      · exact lane_532
      · exact lane_533
      · exact lane_534
    · rcases es with rfl | rfl | rfl | rfl | rfl
      · exact lane_540
      · exact lane_541
      · exact lane_542
      · exact lane_543
      · exact lane_544
end G

set_option Elab.async false
set_option linter.all false
set_option maxRecDepth 1000000
set_option maxHeartbeats 0
namespace G
open PySem PySem.Spec PyProof.Rows L2 PF
theorem cloth_00 : isT (k__law_cloth [some (.val (.tup [.int 0, .int 0]))]) = true := by decide +kernel
theorem cloth_01 : isT (k__law_cloth [some (.val (.tup [.int 0, .int 1]))]) = true := by decide +kernel
theorem cloth_02 : isT (k__law_cloth [some (.val (.tup [.int 0, .int 2]))]) = true := by decide +kernel
theorem cloth_10 : isT (k__law_cloth [some (.val (.tup [.int 1, .int 0]))]) = true := by decide +kernel
theorem cloth_11 : isT (k__law_cloth [some (.val (.tup [.int 1, .int 1]))]) = true := by decide +kernel
theorem cloth_12 : isT (k__law_cloth [some (.val (.tup [.int 1, .int 2]))]) = true := by decide +kernel
theorem cloth_20 : isT (k__law_cloth [some (.val (.tup [.int 2, .int 0]))]) = true := by decide +kernel
theorem cloth_21 : isT (k__law_cloth [some (.val (.tup [.int 2, .int 1]))]) = true := by decide +kernel
theorem cloth_22 : isT (k__law_cloth [some (.val (.tup [.int 2, .int 2]))]) = true := by decide +kernel
theorem cloth_true {a b : Int} (a0 : 0 ≤ a) (a1 : a < 3) (b0 : 0 ≤ b) (b1 : b < 3) : isT (m__law_cloth [some (.val (.tup [.int a, .int b]))]) = true := by
  rw [kq__law_cloth]
  have ea : a = 0 ∨ a = 1 ∨ a = 2 := by omega
  have eb : b = 0 ∨ b = 1 ∨ b = 2 := by omega
  rcases ea with rfl | rfl | rfl
  · rcases eb with rfl | rfl | rfl
    · exact cloth_00
    · exact cloth_01
    · exact cloth_02
  · rcases eb with rfl | rfl | rfl
    · exact cloth_10
    · exact cloth_11
    · exact cloth_12
  · rcases eb with rfl | rfl | rfl
    · exact cloth_20
    · exact cloth_21
    · exact cloth_22
theorem isD_ok {d : D} {r : Option (Rz O × Sls)} (h : r.map (·.1) = some (.ok (.val d))) : ∃ ρ, r = some (.ok (.val d), ρ) := by
  obtain ⟨⟨z, ρ⟩, e1, e2⟩ := Option.map_eq_some_iff.mp h
  exact ⟨ρ, by rw [e1]; simp only at e2; rw [e2]⟩
abbrev f23 : D := .tup [.int 2, .int 3, .tup [], .tup [.tup [.int 0, .int 0], .tup [.int 1, .int 2]]]
theorem part_1 : ∃ ρ, m_parting [some (.val f23), some (.val (.str (PySem.Str.ofString "o"))), some (.val (.str (PySem.Str.ofString "near"))), some (.val (.str (PySem.Str.ofString "first")))] = some (.ok (.val (.tup [.int 1, .tup [.int 0, .int 2]])), ρ) := by
  rw [kq_parting]; exact isD_ok (by kernel_rfl)
theorem part_2 : ∃ ρ, m_parting [some (.val f23), some (.val (.str (PySem.Str.ofString "o"))), some (.val (.str (PySem.Str.ofString "near"))), some (.val (.str (PySem.Str.ofString "stay")))] = some (.ok (.val (.tup [.int 1, .tup [.int 0, .int 1]])), ρ) := by
  rw [kq_parting]; exact isD_ok (by kernel_rfl)
def pR (a b : Int) : D → Bool
  | .int k => !((D.int (k / 3)).eqv (.int a) && ((D.int (k % 3)).eqv (.int b) && true))
  | _ => false
def eR : D → D
  | .int k => .tup [.int (k / 3), .int (k % 3)]
  | d => d
def restC (a b : Int) : List D := (((List.range 9).map fun (n : Nat) => D.int (n : Int)).filter (pR a b)).map eR
theorem last_00 : ((k_awnings [some (.val (.tup [.int 3, .int 3, .tup [], .tup (restC 0 0)])), some (.val (.str (PySem.Str.ofString "o"))), some (.val (.tup [.tup [.tup [.int 0, .int 0], .str (PySem.Str.ofString "stay")]])), some (.val (.int 1))]).map (·.1)) = some (.ok (.val (.tup [.tup [.int 0, .int 0]]))) := by kernel_rfl
theorem last_01 : ((k_awnings [some (.val (.tup [.int 3, .int 3, .tup [], .tup (restC 0 1)])), some (.val (.str (PySem.Str.ofString "o"))), some (.val (.tup [.tup [.tup [.int 0, .int 1], .str (PySem.Str.ofString "stay")]])), some (.val (.int 1))]).map (·.1)) = some (.ok (.val (.tup [.tup [.int 0, .int 1]]))) := by kernel_rfl
theorem last_02 : ((k_awnings [some (.val (.tup [.int 3, .int 3, .tup [], .tup (restC 0 2)])), some (.val (.str (PySem.Str.ofString "o"))), some (.val (.tup [.tup [.tup [.int 0, .int 2], .str (PySem.Str.ofString "stay")]])), some (.val (.int 1))]).map (·.1)) = some (.ok (.val (.tup [.tup [.int 0, .int 2]]))) := by kernel_rfl
theorem last_10 : ((k_awnings [some (.val (.tup [.int 3, .int 3, .tup [], .tup (restC 1 0)])), some (.val (.str (PySem.Str.ofString "o"))), some (.val (.tup [.tup [.tup [.int 1, .int 0], .str (PySem.Str.ofString "stay")]])), some (.val (.int 1))]).map (·.1)) = some (.ok (.val (.tup [.tup [.int 1, .int 0]]))) := by kernel_rfl
theorem last_11 : ((k_awnings [some (.val (.tup [.int 3, .int 3, .tup [], .tup (restC 1 1)])), some (.val (.str (PySem.Str.ofString "o"))), some (.val (.tup [.tup [.tup [.int 1, .int 1], .str (PySem.Str.ofString "stay")]])), some (.val (.int 1))]).map (·.1)) = some (.ok (.val (.tup [.tup [.int 1, .int 1]]))) := by kernel_rfl
theorem last_12 : ((k_awnings [some (.val (.tup [.int 3, .int 3, .tup [], .tup (restC 1 2)])), some (.val (.str (PySem.Str.ofString "o"))), some (.val (.tup [.tup [.tup [.int 1, .int 2], .str (PySem.Str.ofString "stay")]])), some (.val (.int 1))]).map (·.1)) = some (.ok (.val (.tup [.tup [.int 1, .int 2]]))) := by kernel_rfl
theorem last_20 : ((k_awnings [some (.val (.tup [.int 3, .int 3, .tup [], .tup (restC 2 0)])), some (.val (.str (PySem.Str.ofString "o"))), some (.val (.tup [.tup [.tup [.int 2, .int 0], .str (PySem.Str.ofString "stay")]])), some (.val (.int 1))]).map (·.1)) = some (.ok (.val (.tup [.tup [.int 2, .int 0]]))) := by kernel_rfl
theorem last_21 : ((k_awnings [some (.val (.tup [.int 3, .int 3, .tup [], .tup (restC 2 1)])), some (.val (.str (PySem.Str.ofString "o"))), some (.val (.tup [.tup [.tup [.int 2, .int 1], .str (PySem.Str.ofString "stay")]])), some (.val (.int 1))]).map (·.1)) = some (.ok (.val (.tup [.tup [.int 2, .int 1]]))) := by kernel_rfl
theorem last_22 : ((k_awnings [some (.val (.tup [.int 3, .int 3, .tup [], .tup (restC 2 2)])), some (.val (.str (PySem.Str.ofString "o"))), some (.val (.tup [.tup [.tup [.int 2, .int 2], .str (PySem.Str.ofString "stay")]])), some (.val (.int 1))]).map (·.1)) = some (.ok (.val (.tup [.tup [.int 2, .int 2]]))) := by kernel_rfl
theorem last_true {a b : Int} (a0 : 0 ≤ a) (a1 : a < 3) (b0 : 0 ≤ b) (b1 : b < 3) : ∃ ρ, m_awnings [some (.val (.tup [.int 3, .int 3, .tup [], .tup (restC a b)])), some (.val (.str (PySem.Str.ofString "o"))), some (.val (.tup [.tup [.tup [.int a, .int b], .str (PySem.Str.ofString "stay")]])), some (.val (.int 1))] = some (.ok (.val (.tup [.tup [.int a, .int b]])), ρ) := by
  rw [kq_awnings]
  refine isD_ok ?_
  have ea : a = 0 ∨ a = 1 ∨ a = 2 := by omega
  have eb : b = 0 ∨ b = 1 ∨ b = 2 := by omega
  rcases ea with rfl | rfl | rfl
  · rcases eb with rfl | rfl | rfl
    · exact last_00
    · exact last_01
    · exact last_02
  · rcases eb with rfl | rfl | rfl
    · exact last_10
    · exact last_11
    · exact last_12
  · rcases eb with rfl | rfl | rfl
    · exact last_20
    · exact last_21
    · exact last_22
end G

set_option Elab.async false
set_option linter.all false
set_option maxRecDepth 100000
set_option maxHeartbeats 4000000
namespace G
open PySem PySem.Spec PyProof.Rows L2 PF
/-! ### cells in order: plain Lean -/
def cLt (a b : Int × Int) : Bool := decide (a.1 < b.1) || (decide (a.1 = b.1) && decide (a.2 < b.2))
def cLe (a b : Int × Int) : Prop := a.1 < b.1 ∨ (a.1 = b.1 ∧ a.2 ≤ b.2)
theorem cLt_iff {a b : Int × Int} : cLt a b = true ↔ a.1 < b.1 ∨ (a.1 = b.1 ∧ a.2 < b.2) := by unfold cLt; simp
theorem cLt_no {a b : Int × Int} : cLt a b = false ↔ cLe b a := by
  rw [Bool.eq_false_iff, ne_eq, cLt_iff]; unfold cLe; omega
theorem cLe_refl (a : Int × Int) : cLe a a := by unfold cLe; omega
theorem cLe_trans {a b c : Int × Int} (h : cLe a b) (h2 : cLe b c) : cLe a c := by unfold cLe at *; omega
theorem cLe_anti {a b : Int × Int} (h : cLe a b) (h2 : cLe b a) : a = b := by
  obtain ⟨a1, a2⟩ := a
  obtain ⟨b1, b2⟩ := b
  unfold cLe at *
  simp only [Prod.mk.injEq] at *
  omega
theorem cLt_le {a b : Int × Int} (h : cLt a b = true) : cLe a b := by rw [cLt_iff] at h; unfold cLe; omega
theorem cLe_total (a b : Int × Int) : cLe a b ∨ cLe b a := by unfold cLe; omega
def minC (x : Int × Int) (xs : List (Int × Int)) : Int × Int := xs.foldl (fun a y => if cLt y a = true then y else a) x
theorem minC_spec : ∀ (xs : List (Int × Int)) (x : Int × Int), minC x xs ∈ x :: xs ∧ ∀ y ∈ x :: xs, cLe (minC x xs) y
  | [], x => ⟨by simp [minC], fun y h => by simp [minC] at h ⊢; subst h; exact cLe_refl _⟩
  | y :: xs, x => by
    have e : minC x (y :: xs) = minC (if cLt y x = true then y else x) xs := rfl
    rw [e]
    obtain ⟨h1, h2⟩ := minC_spec xs (if cLt y x = true then y else x)
    have h3 := h2 (if cLt y x = true then y else x) (by simp)
    have h4 : cLe (if cLt y x = true then y else x) x ∧ cLe (if cLt y x = true then y else x) y := by
      by_cases c : cLt y x = true
      · rw [if_pos c]; exact ⟨cLt_le c, cLe_refl _⟩
      · rw [if_neg c]; exact ⟨cLe_refl _, cLt_no.mp (by simpa using c)⟩
    refine ⟨?_, ?_⟩
    · rcases List.mem_cons.mp h1 with h | h
      · rw [h]; split <;> simp
      · simp [h]
    · intro z hz
      rw [List.mem_cons, List.mem_cons] at hz
      rcases hz with rfl | rfl | hz
      · exact cLe_trans h3 h4.1
      · exact cLe_trans h3 h4.2
      · exact h2 z (by simp [hz])
/-- the first of an ordered list is the least -/
theorem find_min {l : List (Int × Int)} (hl : l.Pairwise cLe) {p : Int × Int → Bool} {m : Int × Int} (hm : m ∈ l) (pm : p m = true) (hle : ∀ y ∈ l, p y = true → cLe m y) : l.find? p = some m := by
  induction l with
  | nil => cases hm
  | cons a l ih =>
    rw [List.find?_cons]
    rw [List.pairwise_cons] at hl
    by_cases ha : p a = true
    · rw [ha]
      have h1 := hle a (by simp) ha
      rcases List.mem_cons.mp hm with rfl | h
      · rfl
      · rw [cLe_anti h1 (hl.1 m h)]
    · rw [Bool.eq_false_iff.mpr ha]
      simp only
      rcases List.mem_cons.mp hm with rfl | h
      · exact (ha pm).elim
      · exact ih hl.2 h fun y hy => hle y (by simp [hy])
end G

set_option Elab.async false
set_option linter.all false
set_option maxRecDepth 100000
set_option maxHeartbeats 4000000
namespace G
open PySem PySem.Spec PyProof.Rows L2 PF
abbrev vI (i : Int) : Option O := some (.val (.int i))
abbrev vD (d : D) : Option O := some (.val d)
theorem ev_ifL {α : Type} {n : Nat} {a b : M α} {ρ : Sls} {R : α → Sls → Prop} (h : n ≤ lim) (q : Ev a ρ R) : Ev (if n ≤ lim then a else b) ρ R := by rw [if_pos h]; exact q
theorem if_tt {A B : Prop} (h : A) : if (true : Bool) = true then A else B := by simpa using h
theorem if_in {c A B : Prop} [Decidable c] (h : c) (a : A) : if c then A else B := by rw [if_pos h]; exact a
theorem mul_c {i j : Int} (h : -(2 ^ 64) < j ∧ j < 2 ^ 64) : mulG (.val (.int i)) (.val (.int j)) = some (.val (.int (i * j))) := by
  unfold mulG; simp only; rw [if_pos (.inr h)]
theorem mod_c {i j : Int} (h : 0 < j) : modG (.val (.int i)) (.val (.int j)) = some (.val (.int (i % j))) := by
  unfold modG; simp only; rw [if_pos h]
theorem pow_c {i j : Int} (h : 0 ≤ j ∧ j ≤ 1000 ∧ i.natAbs < 2 ^ 64) : powG (.val (.int i)) (.val (.int j)) = some (.val (.int (i ^ j.toNat))) := by
  unfold powG; simp only; rw [if_pos h]
theorem div_c {i j : Int} (h : 0 < j) (h2 : j < 2 ^ 64) : divG (.val (.int i)) (.val (.int j)) = some (.val (.int (i / j))) := by
  unfold divG; simp only; rw [if_pos ⟨h, h2⟩]
local macro_rules | `(tactic| walk_at "e") => `(tactic| (repeat (first | ((with_reducible refine ev_id ?_); first | (with_reducible refine ev_bind.mpr ?_) | (with_reducible refine ev_pure.mpr ?_) | (with_reducible refine ev_seqS.mpr ?_) | (with_reducible refine ev_ite.mpr ?_) | (with_reducible refine ev_ifB.mpr ?_) | (with_reducible refine ev_call.mpr ?_) | (with_reducible refine ev_defM.mpr ?_) | (with_reducible refine ev_lcF.mpr ?_) | (with_reducible refine ev_lc2F.mpr ?_) | (with_reducible refine ev_make.mpr ?_) | (with_reducible refine ev_frz.mpr ?_) | ((with_reducible refine ev_pk.mpr ?_); refine ⟨_, rfl, ?_⟩) | ((with_reducible refine ev_rdE ?_); refine ⟨_, rfl, ?_⟩) | ((with_reducible refine ev_put.mpr ?_); refine ⟨by decide, ?_⟩) | ((with_reducible refine ev_up.mpr ?_); refine ⟨_, _, rfl, rfl, ?_⟩) | (with_reducible refine ev_wp.mpr ?_) | ((with_reducible refine ev_of.mpr ?_); first | refine ⟨_, mul_c (by omega), ?_⟩ | refine ⟨_, mod_c (by omega), ?_⟩ | refine ⟨_, div_c (by omega) (by omega), ?_⟩ | refine ⟨_, pow_c (by decide), ?_⟩ | refine ⟨_, isi_ii _, ?_⟩ | refine ⟨_, isi_ib _, ?_⟩ | refine ⟨_, isi_tt _, ?_⟩ | refine ⟨_, isi_ss _, ?_⟩ | refine ⟨_, rfl, ?_⟩) | ((with_reducible refine ev_ifN ?_ ?_); decide) | ((with_reducible refine ev_ifL ?_ ?_); focus (unfold lim; simp; done)) | ((fail_if_success (with_reducible refine ev_ix2 ?_)); (fail_if_success (with_reducible refine ev_sub2 ?_)); (fail_if_success (with_reducible refine ev_aug2 ?_)); (fail_if_success (with_reducible refine ev_aug2V ?_)); (fail_if_success (with_reducible refine ev_whileK ?_)); (fail_if_success (with_reducible refine ev_of.mpr ?_)); (fail_if_success (with_reducible refine ev_if.mpr ?_)); (fail_if_success (with_reducible refine ev_up.mpr ?_)); (fail_if_success (with_reducible refine ev_rdE ?_)); (fail_if_success (with_reducible refine ev_forK ?_)); first | refine ev_bind.mpr ?_ | refine ev_pure.mpr ?_ | refine ev_put.mpr ⟨by decide, ?_⟩ | refine (ev_rd rfl).mpr ?_ | refine ev_up.mpr ⟨_, _, rfl, rfl, ?_⟩ | refine ev_seqS.mpr ?_ | refine ev_ite.mpr ?_)) | ((with_reducible refine ite_id ?_); first | refine if_tt ?_ | refine if_ff ?_))))
theorem ev_is_number {p lo hi : Int} {R : O → Sls → Prop} (h : R (.val (.bl (decide (lo ≤ p) && decide (p ≤ hi)))) [vI p, vI lo, vI hi]) : Ev m_is_number [vI p, vI lo, vI hi] R := by
  unfold m_is_number b_is_number
  walk_at "e"
  by_cases c : lo ≤ p
  · rw [if_pos (by simpa using c)]
    walk_at "e"
    simpa [c] using h
  · rw [if_neg (by simpa using c)]
    walk_at "e"
    simpa [c] using h
theorem ev_need_count {p lo hi : Int} {R : O → Sls → Prop} (h1 : lo ≤ p) (h2 : p ≤ hi) (h : R (.val .non) [vI p, vI lo, vI hi]) : Ev m_need_count [vI p, vI lo, vI hi] R := by
  unfold m_need_count b_need_count
  walk_at "e"
  refine ⟨_, _, rfl, ev_is_number ?_⟩
  simp only [h1, h2, decide_true, Bool.and_self]
  walk_at "e"
  exact h
/-- the state of the draws -/
abbrev rowO (ns : List Int) (i c k : Int) : O := .lst [.val (.scr ns), .val (.int i), .val (.int c), .val (.int k)]
theorem ite_in {c A B : Prop} [Decidable c] (h1 : c → A) (h2 : ¬ c → B) : if c then A else B := by
  by_cases h : c
  · rw [if_pos h]; exact h1 h
  · rw [if_neg h]; exact h2 h
theorem scr_at {ns : List Int} {j : Int} (h0 : 0 ≤ j) (h1 : j < ns.length) : ∃ n, idxE (.val (.scr ns)) (.val (.int j)) = some (.val (.int n)) := by
  have hj : j.toNat < ns.length := by omega
  refine ⟨ns[j.toNat], ?_⟩
  show (atI ns j).map (fun n => O.val (.int n)) = _
  have e : atI ns j = some ns[j.toNat] := by
    unfold L2.atI ixN
    simp [h0, h1, hj]
  rw [e]; rfl
theorem ev_taken {ns : List Int} {i c k many : Int} {R : O → Sls → Prop} (hi : 0 ≤ i) (hm : 0 < many) (hm2 : many < 2 ^ 64) (hk : 0 ≤ k)
    (h : ∀ v i' c' k', 0 ≤ v → v < many → 0 ≤ i' → 0 ≤ k' → ∀ s2 s3, R (.val (.int v)) [some (rowO ns i' c' k'), vI many, s2, s3]) : Ev m__law_taken [some (rowO ns i c k), vI many] R := by
  have md : ∀ x : Int, 0 ≤ x % many ∧ x % many < many := fun x => ⟨Int.emod_nonneg _ (by omega), Int.emod_lt_of_pos _ hm⟩
  unfold m__law_taken b__law_taken
  walk_at "e"
  refine ite_in (fun c1 => ?_) (fun c1 => ?_)
  · walk_at "e"
    exact h _ _ _ _ (md _).1 (md _).2 hi (Int.ediv_nonneg hk (by omega)) _ _
  · walk_at "e"
    refine ite_in (fun c2 => ?_) (fun c2 => ?_)
    · walk_at "e"
      exact h _ _ _ _ (md _).1 (md _).2 (by omega) hk _ _
    · walk_at "e"
      have c3 : ¬ ((ns.length : Int) < i + 1) := by simpa using c2
      obtain ⟨n, hn⟩ := scr_at (ns := ns) (j := i + 1 - 1) (by omega) (by omega)
      refine ev_of.mpr ⟨_, hn, ?_⟩
      walk_at "e"
      refine ite_in (fun c4 => ?_) (fun c4 => ?_)
      · have c5 : (10 : Int) ^ 18 ≤ n := by simpa using c4
        walk_at "e"
        exact h _ _ _ _ (md _).1 (md _).2 (by omega) (Int.ediv_nonneg (by omega) (by omega)) _ _
      · walk_at "e"
        exact h _ _ _ _ (md _).1 (md _).2 (by omega) hk _ _
/-! ### floors as data -/
abbrev Cell := Int × Int
abbrev Post := Int × Int × Int
def cD (c : Cell) : D := .tup [.int c.1, .int c.2]
def pD (p : Post) : D := .tup [.int p.1, .int p.2.1, .int p.2.2]
structure Flo where
  h : Int
  w : Int
  ps : List Post
  cs : List Cell
def Flo.D (f : Flo) : D := .tup [.int f.h, .int f.w, .tup (f.ps.map pD), .tup (f.cs.map cD)]
structure Flo.Ok (f : Flo) : Prop where
  h0 : 1 ≤ f.h
  h1 : f.h ≤ 5
  w0 : 1 ≤ f.w
  w1 : f.w ≤ 5
  pin : ∀ p ∈ f.ps, 0 ≤ p.1 ∧ p.1 < f.h ∧ 0 ≤ p.2.1 ∧ p.2.1 < f.w ∧ 1 ≤ p.2.2 ∧ p.2.2 ≤ 4
  pnd : (f.ps.map fun p => (p.1, p.2.1)).Nodup
  pn : f.ps.length ≤ 4
  cin : ∀ c ∈ f.cs, 0 ≤ c.1 ∧ c.1 < f.h ∧ 0 ≤ c.2 ∧ c.2 < f.w
  cnd : f.cs.Nodup
  cn : f.cs.length ≤ 25
/-- the cells, row by row -/
def Flo.cells (f : Flo) : List Cell := (List.range (f.h * f.w).toNat).map fun (k : Nat) => ((k : Int) / f.w, (k : Int) % f.w)
def lstC (cs : List Cell) : O := .lst (cs.map fun c => .val (cD c))
theorem ev_law_cells {f : Flo} (ok : f.Ok) {R : O → Sls → Prop} (h : R (lstC f.cells) [vD f.D, none]) : Ev m__law_cells [vD f.D] R := by
  unfold m__law_cells b__law_cells
  have a := ok.h0; have b := ok.h1; have c := ok.w0; have d := ok.w1
  have hw : f.h * f.w ≤ 25 := by
    have : f.h * f.w ≤ 5 * 5 := Int.mul_le_mul b d (by omega) (by omega)
    omega
  have hw0 : 0 ≤ f.h * f.w := Int.mul_nonneg (by omega) (by omega)
  walk_at "e"
  refine ev_if.mpr (if_in (by omega) ?_)
  walk_at "e"
  refine ⟨by unfold rangeD lim; simp; omega, ?_⟩
  refine lcL_map (p := fun _ => true) (e := fun d => match d with | .int k => .val (cD (k / f.w, k % f.w)) | _ => .val .non) (fun x hx => ?_) ?_
  · unfold rangeD at hx
    obtain ⟨k, hk, rfl⟩ := List.mem_map.mp hx
    walk_at "e"
    refine ⟨rfl, fun _ => ?_, fun h => nomatch h⟩
    walk_at "e"
    exact ⟨by simp [cD, fz, fzs], rfl⟩
  · walk_at "e"
    have e : ((rangeD 0 (f.h * f.w).toNat).filter fun _ => true) = rangeD 0 (f.h * f.w).toNat := List.filter_eq_self.mpr (by simp)
    show R (O.lst (List.map _ (List.filter _ _))) _
    rw [e]
    have e2 : (rangeD 0 (f.h * f.w).toNat).map (fun d => match d with | .int k => O.val (cD (k / f.w, k % f.w)) | _ => .val .non) = f.cells.map fun c => O.val (cD c) := by
      unfold rangeD Flo.cells
      rw [List.map_map, List.map_map]
      refine List.map_congr_left fun k _ => ?_
      simp
    rw [e2]
    exact h
inductive Sg where
  | e | n | o | s | w
  deriving DecidableEq
def Sg.S : Sg → Str
  | .e => PySem.Str.ofString "e"
  | .n => PySem.Str.ofString "n"
  | .o => PySem.Str.ofString "o"
  | .s => PySem.Str.ofString "s"
  | .w => PySem.Str.ofString "w"
def Sg.d : Sg → Cell
  | .e => (0, 1)
  | .n => (-1, 0)
  | .o => (0, 0)
  | .s => (1, 0)
  | .w => (0, -1)
/-- the cells that a post's rays would have to come from -/
def beside (g : Sg) (c : Cell) (tall : Int) : List Cell := (List.range tall.toNat).map fun (k : Nat) => (c.1 - (1 + (k : Int)) * g.d.1, c.2 - (1 + (k : Int)) * g.d.2)
def shady (f : Flo) (g : Sg) (c : Cell) : Bool := f.cs.contains (c.1 - g.d.1, c.2 - g.d.2) || (decide (g ≠ .o) && f.ps.any fun p => (beside g c p.2.2).contains (p.1, p.2.1))
theorem idx_dirs (g : Sg) : idxE (.dct false (List.map D.str [PySem.Str.ofString "n", PySem.Str.ofString "s", PySem.Str.ofString "e", PySem.Str.ofString "w", PySem.Str.ofString "o"])
    [.val (.tup (fzs [.val (.int (0 - 1)), .val (.int 0)])), .val (.tup (fzs [.val (.int 1), .val (.int 0)])), .val (.tup (fzs [.val (.int 0), .val (.int 1)])), .val (.tup (fzs [.val (.int 0), .val (.int (0 - 1))])), .val (.tup (fzs [.val (.int 0), .val (.int 0)]))]) (.val (.str g.S)) = some (.val (cD g.d)) := by
  cases g <;> rfl
theorem cD_ok (c : Cell) (n : Nat) : okD (n + 1) (cD c) = true := by simp [cD, okD]
theorem cD_eqv (a b : Cell) : (cD a).eqv (cD b) = decide (a = b) := by
  obtain ⟨a1, a2⟩ := a
  obtain ⟨b1, b2⟩ := b
  simp [cD, D.eqv, D.eqvs, Bool.beq_eq_decide_eq]
theorem cs_ok (cs : List Cell) (n : Nat) : (cs.map cD).all (okD (n + 1)) = true := by
  rw [List.all_eq_true]
  intro x hx
  obtain ⟨c, _, rfl⟩ := List.mem_map.mp hx
  exact cD_ok c n
theorem any_cell (c : Cell) : ∀ cs : List Cell, ((cs.map cD).any fun z => z.eqv (cD c)) = cs.contains c
  | [] => rfl
  | a :: cs => by
    rw [List.map_cons, List.any_cons, any_cell c cs, cD_eqv, List.contains_cons]
    congr 1
    by_cases h : a = c
    · subst h; simp
    · simp [h, Ne.symm h]
theorem fzs_cells (cs : List Cell) : fzs (cs.map fun c => O.val (cD c)) = cs.map cD := by
  induction cs with
  | nil => rfl
  | cons c cs ih => rw [List.map_cons, fzs, fz, ih, List.map_cons]
theorem in_cells (c : Cell) (cs : List Cell) : inE (.val (cD c)) (.val (.tup (cs.map cD))) = some (cs.contains c) := by
  have e : inE (.val (cD c)) (.val (.tup (cs.map cD))) = inC (.val (cD c)) (.val (.tup (cs.map cD))) := rfl
  have e2 : inC (.val (cD c)) (.val (.tup (cs.map cD))) = if okD 16 (cD c) && okD 16 (.tup (cs.map cD)) then some ((cs.map cD).any fun z => z.eqv (cD c)) else none := rfl
  rw [e, e2, if_pos (by rw [cD_ok c 15]; simpa [okD] using cs_ok cs 14), any_cell]
theorem in_cellsL (c : Cell) (cs : List Cell) : inE (.val (cD c)) (lstC cs) = some (cs.contains c) := by
  have e : inE (.val (cD c)) (lstC cs) = inC (.val (cD c)) (lstC cs) := rfl
  have e2 : inC (.val (cD c)) (lstC cs) = if okD 16 (cD c) && okD 16 (.lst (fzs (cs.map fun c => O.val (cD c)))) then some ((fzs (cs.map fun c => O.val (cD c))).any fun z => z.eqv (cD c)) else none := rfl
  rw [e, e2, fzs_cells, if_pos (by rw [cD_ok c 15]; simpa [okD] using cs_ok cs 14), any_cell]
theorem ev_is_shady {f : Flo} (ok : f.Ok) (g : Sg) (c : Cell) {R : O → Sls → Prop} (h : ∀ ρ, R (.val (.bl (shady f g c))) (vD f.D :: some (.val (.str g.S)) :: vD (cD c) :: ρ)) : Ev m__law_is_shady [vD f.D, some (.val (.str g.S)), vD (cD c)] R := by
  unfold m__law_is_shady b__law_is_shady
  walk_at "e"
  refine ev_of.mpr ⟨_, idx_dirs g, ?_⟩
  walk_at "e"
  refine ev_of.mpr ⟨_, in_cells (c.1 - g.d.1, c.2 - g.d.2) f.cs, ?_⟩
  refine ite_in (fun h1 => ?_) (fun h1 => ?_)
  · walk_at "e"
    have e : shady f g c = true := by unfold shady; rw [h1]; rfl
    rw [e] at h
    exact h _
  · walk_at "e"
    have gd : -1 ≤ g.d.1 ∧ g.d.1 ≤ 1 ∧ -1 ≤ g.d.2 ∧ g.d.2 ≤ 1 := by cases g <;> decide
    refine forL_inv (fun ds ρ => ∃ (rest : List Post) (s5 s6 s7 : Option O), ds = rest.map pD ∧ (∀ p ∈ rest, p ∈ f.ps) ∧ ρ = [vD f.D, some (.val (.str g.S)), vD (cD c), vI g.d.1, vI g.d.2, s5, s6, s7] ∧
      shady f g c = (decide (g ≠ .o) && rest.any fun p => (beside g c p.2.2).contains (p.1, p.2.1))) ?_ ?_ _ _ ⟨f.ps, none, none, none, rfl, fun _ h => h, rfl, by unfold shady; rw [Bool.eq_false_iff.mpr h1, Bool.false_or]⟩
    · rintro d ds ρ ⟨rest, s5, s6, s7, e1, hin, rfl, e2⟩
      cases rest with
      | nil => cases e1
      | cons p rest =>
        rw [List.map_cons] at e1
        injection e1 with e1 e1'
        subst e1 e1'
        have pin := ok.pin p (hin p (by simp))
        walk_at "e"
        refine ev_if.mpr (if_in (by omega) ?_)
        walk_at "e"
        refine ⟨by unfold rangeD lim; simp; omega, ?_⟩
        refine lcL_map (p := fun _ => true) (e := fun d => match d with | .int k => .val (cD (c.1 - k * g.d.1, c.2 - k * g.d.2)) | _ => .val .non) (fun x hx => ?_) ?_
        · unfold rangeD at hx
          obtain ⟨k, hk, rfl⟩ := List.mem_map.mp hx
          walk_at "e"
          refine ⟨rfl, fun _ => ?_, fun h => nomatch h⟩
          walk_at "e"
          exact ⟨rfl, rfl⟩
        · have e4 : List.map (fun d => match d with | .int k => O.val (cD (c.1 - k * g.d.1, c.2 - k * g.d.2)) | _ => .val .non) (List.filter (fun _ => true) (rangeD 1 (p.2.2 + 1 - 1).toNat)) = (beside g c p.2.2).map fun c => O.val (cD c) := by
            rw [List.filter_eq_self.mpr (by simp)]
            unfold rangeD beside
            rw [List.map_map, List.map_map]
            have e5 : p.2.2 + 1 - 1 = p.2.2 := by omega
            rw [e5]
            refine List.map_congr_left fun k _ => ?_
            simp
          rw [e4]
          walk_at "e"
          refine ite_in (fun h2 => ?_) (fun h2 => ?_)
          · walk_at "e"
            refine ev_of.mpr ⟨_, in_cellsL (p.1, p.2.1) (beside g c p.2.2), ?_⟩
            have go : g ≠ .o := by rintro rfl; revert h2; decide
            refine ite_in (fun h3 => ?_) (fun h3 => ?_)
            · walk_at "e"
              have e6 : shady f g c = true := by rw [e2, List.any_cons, h3]; simp [go]
              rw [e6] at h
              exact h _
            · walk_at "e"
              exact ⟨rest, _, _, _, rfl, fun q hq => hin q (by simp [hq]), rfl, by rw [e2, List.any_cons, Bool.eq_false_iff.mpr h3, Bool.false_or]⟩
          · walk_at "e"
            have go : g = .o := by cases g <;> first | rfl | (exfalso; revert h2; decide)
            subst go
            exact ⟨rest, _, _, _, rfl, fun q hq => hin q (by simp [hq]), rfl, by rw [e2]; simp⟩
    · rintro ρ ⟨rest, s5, s6, s7, e1, hin, rfl, e2⟩
      cases rest with
      | cons p rest => cases e1
      | nil =>
        walk_at "e"
        rw [e2] at h
        simp only [List.any_nil, Bool.and_false] at h
        exact h _
end G

set_option Elab.async false
set_option linter.all false
set_option maxRecDepth 100000
set_option maxHeartbeats 4000000
namespace G
open PySem PySem.Spec PyProof.Rows L2 PF
--STUB
theorem ub : ∀ (n : Nat) (c ρ : Sls), unbld (List.replicate n none) c ρ = ρ
  | 0, c, ρ => by cases c <;> rfl
  | n + 1, [], ρ => by rw [List.replicate_succ]; rfl
  | n + 1, s :: c, ρ => by rw [List.replicate_succ]; exact ub n c ρ
theorem ub1 (c ρ : Sls) : unbld [none] c ρ = ρ := ub 1 c ρ
theorem ub2 (c ρ : Sls) : unbld [none, none] c ρ = ρ := ub 2 c ρ
theorem ub3 (c ρ : Sls) : unbld [none, none, none] c ρ = ρ := ub 3 c ρ
theorem ub4 (c ρ : Sls) : unbld [none, none, none, none] c ρ = ρ := ub 4 c ρ
theorem ev_is {m : M O} {ρ : Sls} {o : O} {R : O → Sls → Prop} (h : ∃ ρ', m ρ = some (.ok o, ρ')) (hR : ∀ ρ', R o ρ') : Ev m ρ R := by
  obtain ⟨ρ', e⟩ := h
  exact ⟨o, ρ', e, hR ρ'⟩
theorem valsO_mapL : ∀ ds : List D, valsO (ds.map O.val) = some ds
  | [] => rfl
  | d :: ds => by rw [List.map_cons, valsO, valsO_mapL ds]; rfl
theorem tupF_l (ds : List D) : tupF [.lst (ds.map O.val)] = some (.val (.tup ds)) := by
  unfold tupF
  have h1 : (O.lst (ds.map O.val)).dsT = none := rfl
  have h : (O.lst (ds.map O.val)).dsL = some ds := valsO_mapL ds
  simp only [h1, h]
theorem r9 : rangeD 0 (Int.toNat 9) = ((List.range 9).map fun (n : Nat) => D.int (n : Int)) := rfl
local macro_rules | `(tactic| walk_at "e") => `(tactic| (repeat (first | ((with_reducible refine ev_id ?_); first | (with_reducible refine ev_bind.mpr ?_) | (with_reducible refine ev_pure.mpr ?_) | (with_reducible refine ev_seqS.mpr ?_) | (with_reducible refine ev_ite.mpr ?_) | (with_reducible refine ev_ifB.mpr ?_) | (with_reducible refine ev_call.mpr ?_) | (with_reducible refine ev_defM.mpr ?_) | (with_reducible refine ev_lcF.mpr ?_) | (with_reducible refine ev_lc2F.mpr ?_) | (with_reducible refine ev_make.mpr ?_) | (with_reducible refine ev_frz.mpr ?_) | ((with_reducible refine ev_pk.mpr ?_); refine ⟨_, rfl, ?_⟩) | ((with_reducible refine ev_rdE ?_); refine ⟨_, rfl, ?_⟩) | ((with_reducible refine ev_put.mpr ?_); refine ⟨by decide, ?_⟩) | ((with_reducible refine ev_up.mpr ?_); refine ⟨_, _, rfl, rfl, ?_⟩) | (with_reducible refine ev_wp.mpr ?_) | ((with_reducible refine ev_of.mpr ?_); first | refine ⟨_, mul_c (by omega), ?_⟩ | refine ⟨_, mod_c (by omega), ?_⟩ | refine ⟨_, div_c (by omega) (by omega), ?_⟩ | refine ⟨_, pow_c (by decide), ?_⟩ | refine ⟨_, isi_ii _, ?_⟩ | refine ⟨_, isi_ib _, ?_⟩ | refine ⟨_, isi_tt _, ?_⟩ | refine ⟨_, isi_ss _, ?_⟩ | refine ⟨_, rfl, ?_⟩) | ((with_reducible refine ev_ifN ?_ ?_); decide) | ((with_reducible refine ev_ifL ?_ ?_); focus (unfold lim; simp; done)) | ((fail_if_success (with_reducible refine ev_ix2 ?_)); (fail_if_success (with_reducible refine ev_sub2 ?_)); (fail_if_success (with_reducible refine ev_aug2 ?_)); (fail_if_success (with_reducible refine ev_aug2V ?_)); (fail_if_success (with_reducible refine ev_whileK ?_)); (fail_if_success (with_reducible refine ev_of.mpr ?_)); (fail_if_success (with_reducible refine ev_if.mpr ?_)); (fail_if_success (with_reducible refine ev_up.mpr ?_)); (fail_if_success (with_reducible refine ev_rdE ?_)); (fail_if_success (with_reducible refine ev_forK ?_)); first | refine ev_bind.mpr ?_ | refine ev_pure.mpr ?_ | refine ev_put.mpr ⟨by decide, ?_⟩ | refine (ev_rd rfl).mpr ?_ | refine ev_up.mpr ⟨_, _, rfl, rfl, ?_⟩ | refine ev_seqS.mpr ?_ | refine ev_ite.mpr ?_)) | ((with_reducible refine ite_id ?_); first | refine if_tt ?_ | refine if_ff ?_))))
theorem law_true (ns : List Int) (h : ns.length ≤ 63) : ∃ ρ, m_law [some (.val (.scr ns))] = some (.ok (.val (.bl true)), ρ) := by
  suffices q : Ev m_law [some (.val (.scr ns))] fun o _ => o = .val (.bl true) by
    obtain ⟨a, ρ', e, rfl⟩ := q; exact ⟨ρ', e⟩
  unfold m_law b_law
  walk_at "e"
  refine ⟨_, _, rfl, ev_taken (by first | assumption | omega) (by first | decide | omega) (by first | decide | omega) (by first | assumption | omega) fun v1 i1 c1 k1 v01 v11 i01 k01 s21 s31 => ?_⟩
  (refine ev_at7 rfl ?_); walk_at "e"
  refine ⟨_, _, rfl, ev_taken (by first | assumption | omega) (by first | decide | omega) (by first | decide | omega) (by first | assumption | omega) fun v2 i2 c2 k2 v02 v12 i02 k02 s22 s32 => ?_⟩
  (refine ev_at7 rfl ?_); walk_at "e"
  refine ⟨_, _, rfl, ev_taken (by first | assumption | omega) (by first | decide | omega) (by first | decide | omega) (by first | assumption | omega) fun v3 i3 c3 k3 v03 v13 i03 k03 s23 s33 => ?_⟩
  (refine ev_at7 rfl ?_); walk_at "e"
  refine ⟨_, _, rfl, ev_is (isT_ok (lane_true (by omega) (by omega) (by omega) (by omega) (by omega) (by omega))) fun ρ1 => ?_⟩
  rw [ub3]
  (refine ev_at7 rfl ?_); walk_at "e"
  refine ⟨_, _, rfl, ev_is part_1 fun ρ2 => ?_⟩
  rw [ub4]
  (refine ev_at7 rfl ?_); walk_at "e"
  refine ⟨_, _, rfl, ev_is (o := .val (.bl true)) (isD_ok (by kernel_rfl)) fun ρ3 => ?_⟩
  rw [ub2]
  (refine ev_at7 rfl ?_); walk_at "e"
  refine ⟨_, _, rfl, ev_is part_2 fun ρ4 => ?_⟩
  rw [ub4]
  (refine ev_at7 rfl ?_); walk_at "e"
  refine ⟨_, _, rfl, ev_is (o := .val (.bl true)) (isD_ok (by kernel_rfl)) fun ρ5 => ?_⟩
  rw [ub2]
  (refine ev_at7 rfl ?_); walk_at "e"
  refine ⟨_, _, rfl, ev_taken (by first | assumption | omega) (by first | decide | omega) (by first | decide | omega) (by first | assumption | omega) fun v4 i4 c4 k4 v04 v14 i04 k04 s24 s34 => ?_⟩
  (refine ev_at7 rfl ?_); walk_at "e"
  refine ⟨_, _, rfl, ev_taken (by first | assumption | omega) (by first | decide | omega) (by first | decide | omega) (by first | assumption | omega) fun v5 i5 c5 k5 v05 v15 i05 k05 s25 s35 => ?_⟩
  (refine ev_at7 rfl ?_); walk_at "e"
  refine ev_if.mpr (if_in (by decide) ?_)
  walk_at "e"
  refine ⟨by rw [r9]; decide, ?_⟩
  refine ev_at7 rfl ?_
  refine lcL_map (p := pR v4 v5) (e := fun d => O.val (eR d)) (fun x hx => ?_) ?_
  · rw [r9] at hx
    obtain ⟨j, hj, rfl⟩ := List.mem_map.mp hx
    walk_at "e"
    refine ⟨rfl, fun _ => (by walk_at "e"; exact ⟨rfl, rfl⟩), fun _ => rfl⟩
  rw [r9, show (((List.range 9).map fun (n : Nat) => D.int (n : Int)).filter (pR v4 v5)).map (fun d => O.val (eR d)) = (restC v4 v5).map O.val from by unfold restC; rw [List.map_map]; rfl]
  (refine ev_at7 rfl ?_); walk_at "e"
  refine ev_of.mpr ⟨_, tupF_l _, ?_⟩
  (refine ev_at7 rfl ?_); walk_at "e"
  refine ⟨_, _, rfl, ev_is (last_true (by omega) (by omega) (by omega) (by omega)) fun ρ6 => ?_⟩
  rw [ub4]
  (refine ev_at7 rfl ?_); walk_at "e"
  refine ite_in (fun c => ?_) (fun _ => ?_)
  · exfalso
    have e1 : ((D.tup [D.tup [D.int v4, D.int v5]]).eqv (D.tup [D.tup [D.int v4, D.int v5]])) = true := by simp [D.eqv, D.eqvs]
    have c2 : (!((D.tup [D.tup [D.int v4, D.int v5]]).eqv (D.tup [D.tup [D.int v4, D.int v5]]))) = true := c
    rw [e1] at c2; cases c2
  (refine ev_at7 rfl ?_); walk_at "e"
  refine ⟨_, _, rfl, ev_is (isT_ok (cloth_true (by omega) (by omega) (by omega) (by omega))) fun ρ7 => ?_⟩
  rw [ub1]
  (refine ev_at7 rfl ?_); walk_at "e"
  rfl
end G

set_option Elab.async false
set_option linter.all false
set_option maxRecDepth 100000
set_option maxHeartbeats 4000000
namespace G
open PySem PySem.Spec PyProof.Rows L2 PF LamX NdefX
section
variable {P : Program} {w : World} {K : PySem.W.Frag} {mg : Str → Option Value} {base : Heap} {ca : Ca}
theorem sc__law_alike : FnScope [(PySem.Str.ofString "_law_one"), (PySem.Str.ofString "_law_due"), (PySem.Str.ofString "_law_k")] [(PySem.Str.ofString "_law_one"), (PySem.Str.ofString "_law_due")] (defScope x__law_alike) := ⟨rfl, rfl, rfl, by decide +kernel, rfl, by decide +kernel, by decide +kernel⟩
theorem ok__law_alike (E : Env P w K mg ca)  {f : Addr} {fd : FuncData} (F : FnQ K (PySem.Str.ofString "_law_alike") (PySem.Str.ofString "_law_alike") x__law_alike f fd) (gl : mg (PySem.Str.ofString "_law_alike") = some (.ref f)) (kp : PySem.W.keepIn K (.ref f) = true) (bd : Binds K fd [(PySem.Str.ofString "_law_one"), (PySem.Str.ofString "_law_due")] []) : ∀ n : Nat, FnOk P w K mg base (L2.CX P w) (n + 1) f fd [(PySem.Str.ofString "_law_one"), (PySem.Str.ofString "_law_due")] (spOf ⟨P, w, K, ca⟩ [false, false] (m__law_alike n)) := by
  intro n
  induction n with
  | zero => exact d_stuck F sc__law_alike rfl
  | succ n ih =>
    have O_rec : Own P w K mg base ca (n + 1) (PySem.Str.ofString "_law_alike") [(PySem.Str.ofString "_law_one"), (PySem.Str.ofString "_law_due")] [false, false] (m__law_alike n) := ⟨f, fd, gl, kp, bd, ih⟩
    refine d_okD (b := b__law_alike (m__law_alike n)) (k := n + 1) F sc__law_alike rfl (by decide) fun cdv A outer s H Ex hr => ?_
    have hu : (cxOf (L2.CX P w) P w K mg base [(PySem.Str.ofString "_law_one"), (PySem.Str.ofString "_law_due"), (PySem.Str.ofString "_law_k")] (PySem.Str.ofString "_law_alike") (defScope x__law_alike) f cdv A outer s H Ex).A.units + 65 < cLine := hu_room hr
    have hN := sc__law_alike.nd
    have tk : Takes (cxOf (L2.CX P w) P w K mg base [(PySem.Str.ofString "_law_one"), (PySem.Str.ofString "_law_due"), (PySem.Str.ofString "_law_k")] (PySem.Str.ofString "_law_alike") (defScope x__law_alike) f cdv A outer s H Ex) (fun cls d _ H => Ex cls d H) := takes_of rfl rfl rfl rfl
    exact s_cons (s_if (PW.pt (t_and (t_val (e_look (e_callB cb_isi rfl E.isinstance (by first | rfl | kernel_rfl) (r_two (pr_pt 0) (pv 0) (e_look (e_tup (a_cons (e_gT E.tuple (by first | rfl | kernel_rfl)) (a_cons (e_gT E.list (by first | rfl | kernel_rfl)) (a_nil))))))))) (pw_and1 (t_val (e_look (e_callB cb_isi rfl E.isinstance (by first | rfl | kernel_rfl) (r_two (pr_pt 1) (pv 1) (e_look (e_tup (a_cons (e_gT E.tuple (by first | rfl | kernel_rfl)) (a_cons (e_gT E.list (by first | rfl | kernel_rfl)) (a_nil)))))))))))) (s_cons (s_if (PW.pt (t_or (t_cmp (op_neC (Nat.lt_of_succ_lt hu)) pr_tt (e_callB cb_isi rfl E.isinstance (by first | rfl | kernel_rfl) (r_two (pr_pt 0) (pv 0) (e_look (e_gT E.tuple (by first | rfl | kernel_rfl))))) (e_look (e_callB cb_isi rfl E.isinstance (by first | rfl | kernel_rfl) (r_two (pr_pt 1) (pv 1) (e_look (e_gT E.tuple (by first | rfl | kernel_rfl)))))) (nomark _)) (pw_or1 (t_cmp (op_neC (Nat.lt_of_succ_lt hu)) pr_tt (e_callB cb_len rfl E.len (by first | rfl | kernel_rfl) (r_one (e_pk 0 (pv 0)))) (e_look (e_callB cb_len rfl E.len (by first | rfl | kernel_rfl) (r_one (e_pk 1 (pv 1))))) (nomark _))))) (s_one (s_ret (e_c pe_bl fun _ => repB))) (s_nil))
      (s_one (s_ret (e_cmp (op_eqC (Nat.lt_of_succ_lt hu)) pr_tt (e_lc (own := [((PySem.Str.ofString "_law_k"), 2)]) rfl hN (i_rng1 rfl E.range (r_one (e_look (e_callB cb_len rfl E.len (by first | rfl | kernel_rfl) (r_one (e_pk 0 (pv 0))))))) (show BlkOk [(PySem.Str.ofString "_law_one"), (PySem.Str.ofString "_law_due"), (PySem.Str.ofString "_law_k")] (defScope x__law_alike) _ _ from ⟨rfl, by decide +kernel, by decide +kernel, by decide +kernel, by decide +kernel⟩) (fun _ _ _ _ _ => g_name (i := 2) hN rfl (.inl rfl) (show 2 ∉ others 3 [2] from by decide)) (fun _ _ _ _ _ => ts_one (t_not (t_val (e_look (e_own O_rec hr (Nat.le_refl _) L2.takes0 rfl (m_cons (e_ix hu (pr_pt 0) (pv 0) (e_pk 2 (pv 2))) (m_cons (e_ix hu (pr_pt 1) (pv 1) (e_pk 2 (pv 2))) (m_nil)))))))) (fun _ _ _ _ _ => e_rd 2 (pv 2))) (e_look (e_lst (a_nil))) (nomark _))))) (s_nil))
      (s_one (s_ret (e_and (e_cmp (op_eqC (Nat.lt_of_succ_lt hu)) (pr_pt 0) (pv 0) (e_pk 1 (pv 1)) (nomark _)) (pe_one (e_cmp (op_eqC (Nat.lt_of_succ_lt hu)) pr_tt (e_callB cb_isi rfl E.isinstance (by first | rfl | kernel_rfl) (r_two (pr_pt 0) (pv 0) (e_look (e_gT E.bool (by first | rfl | kernel_rfl))))) (e_look (e_callB cb_isi rfl E.isinstance (by first | rfl | kernel_rfl) (r_two (pr_pt 1) (pv 1) (e_look (e_gT E.bool (by first | rfl | kernel_rfl)))))) (nomark _))))))
theorem sc_all_cells : FnScope [(PySem.Str.ofString "floor"), (PySem.Str.ofString "row"), (PySem.Str.ofString "column")] [(PySem.Str.ofString "floor")] (defScope x_all_cells) := ⟨rfl, rfl, rfl, by decide +kernel, rfl, by decide +kernel, by decide +kernel⟩
theorem ok_all_cells (E : Env P w K mg ca)  {f : Addr} {fd : FuncData} (F : FnQ K (PySem.Str.ofString "all_cells") (PySem.Str.ofString "all_cells") x_all_cells f fd) : FnOk P w K mg base (L2.CX P w) 1 f fd [(PySem.Str.ofString "floor")] (spOf ⟨P, w, K, ca⟩ [false] m_all_cells) := by
  refine d_okD F sc_all_cells rfl (by decide) fun cdv A outer s H Ex hr => ?_
  have hu : (cxOf (L2.CX P w) P w K mg base [(PySem.Str.ofString "floor"), (PySem.Str.ofString "row"), (PySem.Str.ofString "column")] (PySem.Str.ofString "all_cells") (defScope x_all_cells) f cdv A outer s H Ex).A.units + 65 < cLine := hu_room hr
  have hN := sc_all_cells.nd
  have tk : Takes (cxOf (L2.CX P w) P w K mg base [(PySem.Str.ofString "floor"), (PySem.Str.ofString "row"), (PySem.Str.ofString "column")] (PySem.Str.ofString "all_cells") (defScope x_all_cells) f cdv A outer s H Ex) (fun cls d _ H => Ex cls d H) := takes_of rfl rfl rfl rfl
  exact s_one (s_ret (e_lc2 (own := [((PySem.Str.ofString "row"), 1), ((PySem.Str.ofString "column"), 2)]) (vs1 := [2]) rfl hN (i_rng1 rfl E.range (r_one (e_look (e_ix hu (pr_pt 0) (pv 0) (e_look (e_c pe_int fun _ => repI)))))) (show BlkOk [(PySem.Str.ofString "floor"), (PySem.Str.ofString "row"), (PySem.Str.ofString "column")] (defScope x_all_cells) _ _ from ⟨rfl, by decide +kernel, by decide +kernel, by decide +kernel, by decide +kernel⟩) (by decide) (fun _ _ _ _ _ => g_name (i := 1) hN rfl (.inl rfl) (show 1 ∉ others 3 [1, 2] from by decide)) (fun _ _ _ _ _ => ts_nil) (fun _ _ _ _ _ => i_rng1 rfl E.range (r_one (e_look (e_ix hu (pr_pt 0) (pv 0) (e_look (e_c pe_int fun _ => repI)))))) (fun _ _ _ _ _ => g_name (i := 2) hN rfl (.inl rfl) (show 2 ∉ others 3 [2] from by decide)) (fun _ _ _ _ _ => ts_nil) (fun _ _ _ _ _ => e_tup (a_cons (e_rd 1 (pv 1)) (a_cons (e_rd 2 (pv 2)) (a_nil))))))
theorem sc_chosen : FnScope [(PySem.Str.ofString "cells"), (PySem.Str.ofString "size"), (PySem.Str.ofString "found"), (PySem.Str.ofString "at"), (PySem.Str.ofString "cell"), (PySem.Str.ofString "rest")] [(PySem.Str.ofString "cells"), (PySem.Str.ofString "size")] (defScope x_chosen) := ⟨rfl, rfl, rfl, by decide +kernel, rfl, by decide +kernel, by decide +kernel⟩
theorem ok_chosen (E : Env P w K mg ca)  {f : Addr} {fd : FuncData} (F : FnQ K (PySem.Str.ofString "chosen") (PySem.Str.ofString "chosen") x_chosen f fd) (gl : mg (PySem.Str.ofString "chosen") = some (.ref f)) (kp : PySem.W.keepIn K (.ref f) = true) (bd : Binds K fd [(PySem.Str.ofString "cells"), (PySem.Str.ofString "size")] []) : ∀ n : Nat, FnOk P w K mg base (L2.CX P w) (n + 1) f fd [(PySem.Str.ofString "cells"), (PySem.Str.ofString "size")] (spOf ⟨P, w, K, ca⟩ [false, false] (m_chosen n)) := by
  intro n
  induction n with
  | zero => exact d_stuck F sc_chosen rfl
  | succ n ih =>
    have O_rec : Own P w K mg base ca (n + 1) (PySem.Str.ofString "chosen") [(PySem.Str.ofString "cells"), (PySem.Str.ofString "size")] [false, false] (m_chosen n) := ⟨f, fd, gl, kp, bd, ih⟩
    refine d_okD (b := b_chosen (m_chosen n)) (k := n + 1) F sc_chosen rfl (by decide) fun cdv A outer s H Ex hr => ?_
    have hu : (cxOf (L2.CX P w) P w K mg base [(PySem.Str.ofString "cells"), (PySem.Str.ofString "size"), (PySem.Str.ofString "found"), (PySem.Str.ofString "at"), (PySem.Str.ofString "cell"), (PySem.Str.ofString "rest")] (PySem.Str.ofString "chosen") (defScope x_chosen) f cdv A outer s H Ex).A.units + 65 < cLine := hu_room hr
    have hN := sc_chosen.nd
    have tk : Takes (cxOf (L2.CX P w) P w K mg base [(PySem.Str.ofString "cells"), (PySem.Str.ofString "size"), (PySem.Str.ofString "found"), (PySem.Str.ofString "at"), (PySem.Str.ofString "cell"), (PySem.Str.ofString "rest")] (PySem.Str.ofString "chosen") (defScope x_chosen) f cdv A outer s H Ex) (fun cls d _ H => Ex cls d H) := takes_of rfl rfl rfl rfl
    exact s_cons (s_if (t_cmp (op_eqC (Nat.lt_of_succ_lt hu)) (pr_pt 1) (pv 1) (e_look (e_c pe_int fun _ => repI)) (nomark _)) (s_one (s_ret (e_lst (a_cons (e_tup (a_nil)) (a_nil))))) (s_nil))
      (s_cons (s_set (i := 2) hN rfl (.inl rfl) (by decide) (e_lst (a_nil)))
      (s_cons (s_for (passes_of rfl) rfl (i_enum rfl E.enumerate (e_rd 0 (pv 0))) (g_tup rfl (gs_cons (g_name (i := 3) hN rfl (.inl rfl) (by decide)) (gs_cons (g_name (i := 4) hN rfl (.inr rfl) (by decide)) (gs_nil)))) (s_one (s_expr (e_extend 2 (pv 2) (e_lc (own := [((PySem.Str.ofString "rest"), 5)]) rfl hN (i_seq (e_own O_rec hr (Nat.le_refl _) tk rfl (m_cons (e_sliP 0 (pv 0) (p_some (e_look (e_bin op_addG (pr_pt 3) (pv 3) (e_look (e_c pe_int fun _ => repI))))) p_none) (m_cons (e_bin op_subG (pr_pt 1) (pv 1) (e_look (e_c pe_int fun _ => repI))) (m_nil))))) (show BlkOk [(PySem.Str.ofString "cells"), (PySem.Str.ofString "size"), (PySem.Str.ofString "found"), (PySem.Str.ofString "at"), (PySem.Str.ofString "cell"), (PySem.Str.ofString "rest")] (defScope x_chosen) _ _ from ⟨rfl, by decide +kernel, by decide +kernel, by decide +kernel, by decide +kernel⟩) (fun _ _ _ _ _ => g_name (i := 5) hN rfl (.inl rfl) (show 5 ∉ others 6 [5] from by decide)) (fun _ _ _ _ _ => ts_nil) (fun _ _ _ _ _ => e_bin op_addG pr_tt (e_tup (a_cons (e_rd 4 (pv 4)) (a_nil))) (e_pk 5 (pv 5))))))))
      (s_one (s_ret (e_rd 2 (pv 2))))))
theorem sc_far_from : FnScope [(PySem.Str.ofString "one"), (PySem.Str.ofString "other")] [(PySem.Str.ofString "one"), (PySem.Str.ofString "other")] (defScope x_far_from) := ⟨rfl, rfl, rfl, by decide +kernel, rfl, by decide +kernel, by decide +kernel⟩
theorem ok_far_from (E : Env P w K mg ca)  {f : Addr} {fd : FuncData} (F : FnQ K (PySem.Str.ofString "far_from") (PySem.Str.ofString "far_from") x_far_from f fd) : FnOk P w K mg base (L2.CX P w) 1 f fd [(PySem.Str.ofString "one"), (PySem.Str.ofString "other")] (spOf ⟨P, w, K, ca⟩ [false, false] m_far_from) := by
  refine d_okD F sc_far_from rfl (by decide) fun cdv A outer s H Ex hr => ?_
  have hu : (cxOf (L2.CX P w) P w K mg base [(PySem.Str.ofString "one"), (PySem.Str.ofString "other")] (PySem.Str.ofString "far_from") (defScope x_far_from) f cdv A outer s H Ex).A.units + 65 < cLine := hu_room hr
  have hN := sc_far_from.nd
  have tk : Takes (cxOf (L2.CX P w) P w K mg base [(PySem.Str.ofString "one"), (PySem.Str.ofString "other")] (PySem.Str.ofString "far_from") (defScope x_far_from) f cdv A outer s H Ex) (fun cls d _ H => Ex cls d H) := takes_of rfl rfl rfl rfl
  exact s_one (s_ret (e_bin op_addG pr_tt (e_callB cb_abs rfl E.abs (by first | rfl | kernel_rfl) (r_one (e_look (e_bin op_subG pr_tt (e_ix hu (pr_pt 0) (pv 0) (e_look (e_c pe_int fun _ => repI))) (e_look (e_ix hu (pr_pt 1) (pv 1) (e_look (e_c pe_int fun _ => repI)))))))) (e_look (e_callB cb_abs rfl E.abs (by first | rfl | kernel_rfl) (r_one (e_look (e_bin op_subG pr_tt (e_ix hu (pr_pt 0) (pv 0) (e_look (e_c pe_int fun _ => repI))) (e_look (e_ix hu (pr_pt 1) (pv 1) (e_look (e_c pe_int fun _ => repI)))))))))))
theorem sc_seat_for : FnScope [(PySem.Str.ofString "rule"), (PySem.Str.ofString "cell"), (PySem.Str.ofString "free")] [(PySem.Str.ofString "rule"), (PySem.Str.ofString "cell"), (PySem.Str.ofString "free")] (defScope x_seat_for) := ⟨rfl, rfl, rfl, by decide +kernel, rfl, by decide +kernel, by decide +kernel⟩
theorem ok_seat_for (E : Env P w K mg ca) (O_far_from : Own P w K mg base ca 1 (PySem.Str.ofString "far_from") [(PySem.Str.ofString "one"), (PySem.Str.ofString "other")] [false, false] m_far_from) {f : Addr} {fd : FuncData} (TF : TbF ca base mg fd.code ((PySem.Str.ofString "seat_for") ++ PySem.Str.ofString ".<locals>." ++ PySem.Str.ofString "<lambda>")) (F : FnQ K (PySem.Str.ofString "seat_for") (PySem.Str.ofString "seat_for") x_seat_for f fd) : FnOk P w K mg base (L2.CX P w) 4 f fd [(PySem.Str.ofString "rule"), (PySem.Str.ofString "cell"), (PySem.Str.ofString "free")] (spOf ⟨P, w, K, ca⟩ [false, false, false] m_seat_for) := by
  refine d_okC F sc_seat_for rfl (by decide) fun A outer s H Ex hr => ?_
  obtain ⟨tbc, tbP, tbC, tbB, tbM, tbU⟩ := TF.ex
  have hu : (cxOf (L2.CX P w) P w K mg base [(PySem.Str.ofString "rule"), (PySem.Str.ofString "cell"), (PySem.Str.ofString "free")] (PySem.Str.ofString "seat_for") (defScope x_seat_for) f fd.code A outer s H Ex).A.units + 65 < cLine := hu_room hr
  have hN := sc_seat_for.nd
  have tk : Takes (cxOf (L2.CX P w) P w K mg base [(PySem.Str.ofString "rule"), (PySem.Str.ofString "cell"), (PySem.Str.ofString "free")] (PySem.Str.ofString "seat_for") (defScope x_seat_for) f fd.code A outer s H Ex) (fun cls d _ H => Ex cls d H) := takes_of rfl rfl rfl rfl
  exact s_cons (s_if (PW.pt (t_or (t_cmp (op_eqC (Nat.lt_of_succ_lt hu)) (pr_pt 0) (pv 0) (e_look (e_c pe_str fun _ => repS)) (nomark _)) (pw_or1 (t_cmp (op_eqC (Nat.lt_of_succ_lt hu)) (pr_pt 2) (pv 2) (e_look (e_lst (a_nil))) (nomark _))))) (s_one (s_ret (e_rd 1 (pv 1)))) (s_nil))
    (s_cons (s_if (t_cmp (op_eqC (Nat.lt_of_succ_lt hu)) (pr_pt 0) (pv 0) (e_look (e_c pe_str fun _ => repS)) (nomark _)) (s_one (s_ret (e_ix hu (pr_pt 2) (pv 2) (e_look (e_c pe_int fun _ => repI))))) (s_nil))
    (s_one (s_ret (e_minkey (k := 1) (js := [1]) (fb := (consA (callF [none, none] (consA (rd 1) (consA (rd 0) (nilA))) [false, false] m_far_from) (consA (rd 0) (nilA))).bind tupM) (x := (PySem.Str.ofString "other")) (fr := [(PySem.Str.ofString "cell")]) ⟨fun _ => nscope_by (by kernel_rfl), fun _ _ _ _ => rfl, fun ok _ => Caps.made ok (ndef_free (sc := defScope x_seat_for) (fr := [(PySem.Str.ofString "cell")]) (by kernel_rfl)) (ndef_fr (sc := defScope x_seat_for) (fr := [(PySem.Str.ofString "cell")]) (by kernel_rfl)) rfl, fun _ => rfl, fun c' f A outer s H hr => e_tup (a_cons (e_own O_far_from hr (by decide) L2.takes0 rfl (m_cons (e_rd 1 (pv 1)) (m_cons (e_rd 0 (pv 0)) (m_nil)))) (a_cons (e_rd 0 (pv 0)) (a_nil)))⟩ tbB tbC tbM tbU rfl (fun ok y hy e => (ndef_free (sc := defScope x_seat_for) (fr := [(PySem.Str.ofString "cell")]) (by kernel_rfl) y hy e).elim (fun z => ok.has _ (.inl z)) fun z => ok.has _ (.inr z)) (hr.mono (by decide)) hu rfl rfl E.min (e_rd 2 (pv 2))))))
theorem sc_shaded : FnScope [(PySem.Str.ofString "floor"), (PySem.Str.ofString "sign"), (PySem.Str.ofString "down"), (PySem.Str.ofString "right"), (PySem.Str.ofString "found"), (PySem.Str.ofString "row"), (PySem.Str.ofString "column"), (PySem.Str.ofString "high"), (PySem.Str.ofString "far"), (PySem.Str.ofString "cell")] [(PySem.Str.ofString "floor"), (PySem.Str.ofString "sign")] (defScope x_shaded) := ⟨rfl, rfl, rfl, by decide +kernel, rfl, by decide +kernel, by decide +kernel⟩
theorem ok_shaded (E : Env P w K mg ca) (O_all_cells : Own P w K mg base ca 1 (PySem.Str.ofString "all_cells") [(PySem.Str.ofString "floor")] [false] m_all_cells) {f : Addr} {fd : FuncData} (F : FnQ K (PySem.Str.ofString "shaded") (PySem.Str.ofString "shaded") x_shaded f fd) : FnOk P w K mg base (L2.CX P w) 2 f fd [(PySem.Str.ofString "floor"), (PySem.Str.ofString "sign")] (spOf ⟨P, w, K, ca⟩ [false, false] m_shaded) := by
  refine d_okD F sc_shaded rfl (by decide) fun cdv A outer s H Ex hr => ?_
  have hu : (cxOf (L2.CX P w) P w K mg base [(PySem.Str.ofString "floor"), (PySem.Str.ofString "sign"), (PySem.Str.ofString "down"), (PySem.Str.ofString "right"), (PySem.Str.ofString "found"), (PySem.Str.ofString "row"), (PySem.Str.ofString "column"), (PySem.Str.ofString "high"), (PySem.Str.ofString "far"), (PySem.Str.ofString "cell")] (PySem.Str.ofString "shaded") (defScope x_shaded) f cdv A outer s H Ex).A.units + 65 < cLine := hu_room hr
  have hN := sc_shaded.nd
  have tk : Takes (cxOf (L2.CX P w) P w K mg base [(PySem.Str.ofString "floor"), (PySem.Str.ofString "sign"), (PySem.Str.ofString "down"), (PySem.Str.ofString "right"), (PySem.Str.ofString "found"), (PySem.Str.ofString "row"), (PySem.Str.ofString "column"), (PySem.Str.ofString "high"), (PySem.Str.ofString "far"), (PySem.Str.ofString "cell")] (PySem.Str.ofString "shaded") (defScope x_shaded) f cdv A outer s H Ex) (fun cls d _ H => Ex cls d H) := takes_of rfl rfl rfl rfl
  exact s_cons (s_asg (e_ix hu pr_tt (e_gD E.STEPS) (e_pk 1 (pv 1))) (g_tup rfl (gs_cons (g_name (i := 2) hN rfl (.inl rfl) (by decide)) (gs_cons (g_name (i := 3) hN rfl (.inl rfl) (by decide)) (gs_nil)))))
    (s_cons (s_set (i := 4) hN rfl (.inr rfl) (by decide) (e_dnew))
    (s_cons (s_for (passes_of rfl) rfl (i_seq (e_ix hu (pr_pt 0) (pv 0) (e_look (e_c pe_int fun _ => repI)))) (g_tup rfl (gs_cons (g_name (i := 5) hN rfl (.inl rfl) (by decide)) (gs_cons (g_name (i := 6) hN rfl (.inl rfl) (by decide)) (gs_cons (g_name (i := 7) hN rfl (.inl rfl) (by decide)) (gs_nil))))) (s_one (s_for (passes_of rfl) rfl (i_rng2 rfl E.range (r_two pr_tt (e_c pe_int fun _ => repI) (e_look (e_ite (t_cmp (op_neC (Nat.lt_of_succ_lt hu)) (pr_pt 1) (pv 1) (e_look (e_gS E.OVERHEAD)) (nomark _)) (e_bin op_addG (pr_pt 7) (pv 7) (e_look (e_c pe_int fun _ => repI))) (e_c pe_int fun _ => repI))))) (g_name (i := 8) hN rfl (.inl rfl) (by decide)) (s_one (s_asg (e_c pe_bl fun _ => repB) (g_sub 4 hu (pv 4) (e_tup (a_cons (e_bin op_addG (pr_pt 5) (pv 5) (e_look (e_bin op_mulG (pr_pt 2) (pv 2) (e_pk 8 (pv 8))))) (a_cons (e_bin op_addG (pr_pt 6) (pv 6) (e_look (e_bin op_mulG (pr_pt 3) (pv 3) (e_pk 8 (pv 8))))) (a_nil))))))))))
    (s_cons (s_for (passes_of rfl) rfl (i_seq (e_ix hu (pr_pt 0) (pv 0) (e_look (e_c pe_int fun _ => repI)))) (g_tup rfl (gs_cons (g_name (i := 5) hN rfl (.inl rfl) (by decide)) (gs_cons (g_name (i := 6) hN rfl (.inl rfl) (by decide)) (gs_nil)))) (s_one (s_asg (e_c pe_bl fun _ => repB) (g_sub 4 hu (pv 4) (e_tup (a_cons (e_bin op_addG (pr_pt 5) (pv 5) (e_pk 2 (pv 2))) (a_cons (e_bin op_addG (pr_pt 6) (pv 6) (e_pk 3 (pv 3))) (a_nil))))))))
    (s_one (s_ret (e_dc (own := [((PySem.Str.ofString "cell"), 9)]) hu rfl hN (i_seq (e_own O_all_cells hr (by decide) tk rfl (m_cons (e_rd 0 (pv 0)) (m_nil)))) (show BlkOk [(PySem.Str.ofString "floor"), (PySem.Str.ofString "sign"), (PySem.Str.ofString "down"), (PySem.Str.ofString "right"), (PySem.Str.ofString "found"), (PySem.Str.ofString "row"), (PySem.Str.ofString "column"), (PySem.Str.ofString "high"), (PySem.Str.ofString "far"), (PySem.Str.ofString "cell")] (defScope x_shaded) _ _ from ⟨rfl, by decide +kernel, by decide +kernel, by decide +kernel, by decide +kernel⟩) (fun _ _ _ _ _ => g_name (i := 9) hN rfl (.inl rfl) (show 9 ∉ others 10 [9] from by decide)) (fun _ _ _ _ _ => ts_one (t_cmp ((op_inE hu)) (pr_pt 9) (pv 9) (e_pk 4 (pv 4)) (by with_unfolding_all rfl))) (fun _ _ _ _ _ => e_rd 9 (pv 9)) (fun _ _ _ _ _ => e_c pe_bl fun _ => repB)))))))
theorem sc_moved : FnScope [(PySem.Str.ofString "floor"), (PySem.Str.ofString "sign"), (PySem.Str.ofString "folk"), (PySem.Str.ofString "shady"), (PySem.Str.ofString "posts"), (PySem.Str.ofString "found"), (PySem.Str.ofString "number"), (PySem.Str.ofString "cell"), (PySem.Str.ofString "rule"), (PySem.Str.ofString "taken"), (PySem.Str.ofString "free"), (PySem.Str.ofString "post"), (PySem.Str.ofString "one"), (PySem.Str.ofString "other")] [(PySem.Str.ofString "floor"), (PySem.Str.ofString "sign"), (PySem.Str.ofString "folk")] (defScope x_moved) := ⟨rfl, rfl, rfl, by decide +kernel, rfl, by decide +kernel, by decide +kernel⟩
theorem ok_moved (E : Env P w K mg ca) (O_all_cells : Own P w K mg base ca 1 (PySem.Str.ofString "all_cells") [(PySem.Str.ofString "floor")] [false] m_all_cells) (O_seat_for : Own P w K mg base ca 4 (PySem.Str.ofString "seat_for") [(PySem.Str.ofString "rule"), (PySem.Str.ofString "cell"), (PySem.Str.ofString "free")] [false, false, false] m_seat_for) (O_shaded : Own P w K mg base ca 2 (PySem.Str.ofString "shaded") [(PySem.Str.ofString "floor"), (PySem.Str.ofString "sign")] [false, false] m_shaded) {f : Addr} {fd : FuncData} (F : FnQ K (PySem.Str.ofString "moved") (PySem.Str.ofString "moved") x_moved f fd) : FnOk P w K mg base (L2.CX P w) 5 f fd [(PySem.Str.ofString "floor"), (PySem.Str.ofString "sign"), (PySem.Str.ofString "folk")] (spOf ⟨P, w, K, ca⟩ [false, false, false] m_moved) := by
  refine d_okD F sc_moved rfl (by decide) fun cdv A outer s H Ex hr => ?_
  have hu : (cxOf (L2.CX P w) P w K mg base [(PySem.Str.ofString "floor"), (PySem.Str.ofString "sign"), (PySem.Str.ofString "folk"), (PySem.Str.ofString "shady"), (PySem.Str.ofString "posts"), (PySem.Str.ofString "found"), (PySem.Str.ofString "number"), (PySem.Str.ofString "cell"), (PySem.Str.ofString "rule"), (PySem.Str.ofString "taken"), (PySem.Str.ofString "free"), (PySem.Str.ofString "post"), (PySem.Str.ofString "one"), (PySem.Str.ofString "other")] (PySem.Str.ofString "moved") (defScope x_moved) f cdv A outer s H Ex).A.units + 65 < cLine := hu_room hr
  have hN := sc_moved.nd
  have tk : Takes (cxOf (L2.CX P w) P w K mg base [(PySem.Str.ofString "floor"), (PySem.Str.ofString "sign"), (PySem.Str.ofString "folk"), (PySem.Str.ofString "shady"), (PySem.Str.ofString "posts"), (PySem.Str.ofString "found"), (PySem.Str.ofString "number"), (PySem.Str.ofString "cell"), (PySem.Str.ofString "rule"), (PySem.Str.ofString "taken"), (PySem.Str.ofString "free"), (PySem.Str.ofString "post"), (PySem.Str.ofString "one"), (PySem.Str.ofString "other")] (PySem.Str.ofString "moved") (defScope x_moved) f cdv A outer s H Ex) (fun cls d _ H => Ex cls d H) := takes_of rfl rfl rfl rfl
  exact s_cons (s_set (i := 3) hN rfl (.inr rfl) (by decide) (e_own O_shaded hr (by decide) tk rfl (m_cons (e_rd 0 (pv 0)) (m_cons (e_rd 1 (pv 1)) (m_nil)))))
    (s_cons (s_set (i := 4) hN rfl (.inr rfl) (by decide) (e_lc (own := [((PySem.Str.ofString "post"), 11)]) rfl hN (i_seq (e_ix hu (pr_pt 0) (pv 0) (e_look (e_c pe_int fun _ => repI)))) (show BlkOk [(PySem.Str.ofString "floor"), (PySem.Str.ofString "sign"), (PySem.Str.ofString "folk"), (PySem.Str.ofString "shady"), (PySem.Str.ofString "posts"), (PySem.Str.ofString "found"), (PySem.Str.ofString "number"), (PySem.Str.ofString "cell"), (PySem.Str.ofString "rule"), (PySem.Str.ofString "taken"), (PySem.Str.ofString "free"), (PySem.Str.ofString "post"), (PySem.Str.ofString "one"), (PySem.Str.ofString "other")] (defScope x_moved) _ _ from ⟨rfl, by decide +kernel, by decide +kernel, by decide +kernel, by decide +kernel⟩) (fun _ _ _ _ _ => g_name (i := 11) hN rfl (.inl rfl) (show 11 ∉ others 14 [11] from by decide)) (fun _ _ _ _ _ => ts_nil) (fun _ _ _ _ _ => e_sliP 11 (pv 11) p_none (p_some (e_look (e_c pe_int fun _ => repI))))))
    (s_cons (s_set (i := 5) hN rfl (.inl rfl) (by decide) (e_callTy cb_list rfl E.list (by first | rfl | kernel_rfl) (r_one (e_pk 2 (pv 2)))))
    (s_cons (s_for (passes_of rfl) rfl (i_enum rfl E.enumerate (e_rd 2 (pv 2))) (g_tup rfl (gs_cons (g_name (i := 6) hN rfl (.inl rfl) (by decide)) (gs_cons (g_tup rfl (gs_cons (g_name (i := 7) hN rfl (.inl rfl) (by decide)) (gs_cons (g_name (i := 8) hN rfl (.inl rfl) (by decide)) (gs_nil)))) (gs_nil)))) (s_one (s_if (t_cmp ((op_ninE hu)) (pr_pt 7) (pv 7) (e_pk 3 (pv 3)) (by with_unfolding_all rfl)) (s_cons (s_set (i := 9) hN rfl (.inr rfl) (by decide) (e_lcB (own := [((PySem.Str.ofString "one"), 12)]) 5 rfl hN (pv 5) (show 5 ∉ [12] from by decide) (show BlkOk [(PySem.Str.ofString "floor"), (PySem.Str.ofString "sign"), (PySem.Str.ofString "folk"), (PySem.Str.ofString "shady"), (PySem.Str.ofString "posts"), (PySem.Str.ofString "found"), (PySem.Str.ofString "number"), (PySem.Str.ofString "cell"), (PySem.Str.ofString "rule"), (PySem.Str.ofString "taken"), (PySem.Str.ofString "free"), (PySem.Str.ofString "post"), (PySem.Str.ofString "one"), (PySem.Str.ofString "other")] (defScope x_moved) _ _ from ⟨rfl, by decide +kernel, by decide +kernel, by decide +kernel, by decide +kernel⟩) (fun _ _ _ _ _ => g_name (i := 12) hN rfl (.inl rfl) (show 12 ∉ others 14 [12] from by decide)) (fun _ _ _ _ _ => ts_nil) (fun _ _ _ _ _ => e_ix hu (pr_pt 12) (pv 12) (e_look (e_c pe_int fun _ => repI)))))
    (s_cons (s_setLc (own := [((PySem.Str.ofString "other"), 13)]) (i := 10) rfl hN rfl rfl (by decide) rfl (i_seq (e_own O_all_cells hr (by decide) tk rfl (m_cons (e_rd 0 (pv 0)) (m_nil)))) (show BlkOk [(PySem.Str.ofString "floor"), (PySem.Str.ofString "sign"), (PySem.Str.ofString "folk"), (PySem.Str.ofString "shady"), (PySem.Str.ofString "posts"), (PySem.Str.ofString "found"), (PySem.Str.ofString "number"), (PySem.Str.ofString "cell"), (PySem.Str.ofString "rule"), (PySem.Str.ofString "taken"), (PySem.Str.ofString "free"), (PySem.Str.ofString "post"), (PySem.Str.ofString "one"), (PySem.Str.ofString "other")] (defScope x_moved) _ _ from ⟨rfl, by decide +kernel, by decide +kernel, by decide +kernel, by decide +kernel⟩) (fun _ _ _ _ _ => g_name (i := 13) hN rfl (.inl rfl) (show 13 ∉ others 14 [13] from by decide)) (fun _ _ _ _ _ => ts_one (PW.pt (t_and (t_cmp ((op_inE hu)) (pr_pt 13) (pv 13) (e_pk 3 (pv 3)) (by with_unfolding_all rfl)) (pw_and1 (t_cmp ((op_ninE hu)) (pr_pt 13) (pv 13) (e_look (e_bin op_addG (pr_pt 9) (pv 9) (e_pk 4 (pv 4)))) (by with_unfolding_all rfl)))))) (fun _ _ _ _ _ => e_rd 13 (pv 13)))
    (s_one (s_asg (e_tup (a_cons (e_own O_seat_for hr (by decide) tk rfl (m_cons (e_rd 8 (pv 8)) (m_cons (e_rd 7 (pv 7)) (m_cons (e_rd 10 (pv 10)) (m_nil))))) (a_cons (e_rd 8 (pv 8)) (a_nil)))) (g_sub 5 hu (pv 5) (e_rd 6 (pv 6))))))) (s_nil))))
    (s_one (s_ret (e_callTy cb_tuple rfl E.tuple (by first | rfl | kernel_rfl) (r_one (e_pk 5 (pv 5)))))))))
theorem sc_Course_init : FnScope [(PySem.Str.ofString "self"), (PySem.Str.ofString "floor"), (PySem.Str.ofString "sun"), (PySem.Str.ofString "folk"), (PySem.Str.ofString "known"), (PySem.Str.ofString "at")] [(PySem.Str.ofString "self"), (PySem.Str.ofString "floor"), (PySem.Str.ofString "sun"), (PySem.Str.ofString "folk")] (defScope x_Course_init) := ⟨rfl, rfl, rfl, by decide +kernel, rfl, by decide +kernel, by decide +kernel⟩
theorem ok_Course_init (E : Env P w K mg ca) (O_moved : Own P w K mg base ca 5 (PySem.Str.ofString "moved") [(PySem.Str.ofString "floor"), (PySem.Str.ofString "sign"), (PySem.Str.ofString "folk")] [false, false, false] m_moved) {f : Addr} {fd : FuncData} (F : FnQ K (PySem.Str.ofString "__init__") (PySem.Str.ofString "Course.__init__") x_Course_init f fd) : FnOk P w K mg base (L2.CX P w) 6 f fd [(PySem.Str.ofString "self"), (PySem.Str.ofString "floor"), (PySem.Str.ofString "sun"), (PySem.Str.ofString "folk")] (spOf ⟨P, w, K, ca⟩ [true, false, false, false] m_Course_init) := by
  refine d_okD F sc_Course_init rfl (by decide) fun cdv A outer s H Ex hr => ?_
  have hu : (cxOf (L2.CX P w) P w K mg base [(PySem.Str.ofString "self"), (PySem.Str.ofString "floor"), (PySem.Str.ofString "sun"), (PySem.Str.ofString "folk"), (PySem.Str.ofString "known"), (PySem.Str.ofString "at")] (PySem.Str.ofString "Course.__init__") (defScope x_Course_init) f cdv A outer s H Ex).A.units + 65 < cLine := hu_room hr
  have hN := sc_Course_init.nd
  have tk : Takes (cxOf (L2.CX P w) P w K mg base [(PySem.Str.ofString "self"), (PySem.Str.ofString "floor"), (PySem.Str.ofString "sun"), (PySem.Str.ofString "folk"), (PySem.Str.ofString "known"), (PySem.Str.ofString "at")] (PySem.Str.ofString "Course.__init__") (defScope x_Course_init) f cdv A outer s H Ex) (fun cls d _ H => Ex cls d H) := takes_of rfl rfl rfl rfl
  exact s_cons (s_set (i := 4) hN rfl (.inl rfl) (by decide) (e_dnew))
    (s_cons (s_fld (C := 0) (i := 0) (pv 0) (e_lst (a_nil)) E.cls0 E.na_rows)
    (s_cons (s_set (i := 5) hN rfl (.inl rfl) (by decide) (e_c pe_int fun _ => repI))
    (s_cons (s_while lim (passes_of rfl) (t_cmp ((op_ninE hu)) pr_tt (e_tup (a_cons (e_rd 3 (pv 3)) (a_cons (e_bin op_modG (pr_pt 5) (pv 5) (e_look (e_callB cb_len rfl E.len (by first | rfl | kernel_rfl) (r_one (e_pk 2 (pv 2)))))) (a_nil)))) (e_pk 4 (pv 4)) (by with_unfolding_all rfl)) (s_cons (s_asg (e_rd 5 (pv 5)) (g_sub 4 hu (pv 4) (e_tup (a_cons (e_rd 3 (pv 3)) (a_cons (e_bin op_modG (pr_pt 5) (pv 5) (e_look (e_callB cb_len rfl E.len (by first | rfl | kernel_rfl) (r_one (e_pk 2 (pv 2)))))) (a_nil))))))
    (s_cons (s_expr (e_appFld (C := 0) 0 3 (pv 0) (pv 3) E.cls0 E.na_rows))
    (s_cons (s_set (i := 3) hN rfl (.inl rfl) (by decide) (e_own O_moved hr (by decide) tk rfl (m_cons (e_rd 1 (pv 1)) (m_cons (e_ix hu (pr_pt 2) (pv 2) (e_look (e_bin op_modG (pr_pt 5) (pv 5) (e_look (e_callB cb_len rfl E.len (by first | rfl | kernel_rfl) (r_one (e_pk 2 (pv 2)))))))) (m_cons (e_rd 3 (pv 3)) (m_nil))))))
    (s_one (s_augI (i := 5) hN rfl (.inl rfl) (by decide) (e_c pe_int fun _ => repI)))))))
    (s_cons (s_fld (C := 0) (i := 0) (pv 0) (e_ix hu (pr_pt 4) (pv 4) (e_look (e_tup (a_cons (e_rd 3 (pv 3)) (a_cons (e_bin op_modG (pr_pt 5) (pv 5) (e_look (e_callB cb_len rfl E.len (by first | rfl | kernel_rfl) (r_one (e_pk 2 (pv 2)))))) (a_nil)))))) E.cls0 E.na_tail)
    (s_one (s_fld (C := 0) (i := 0) (pv 0) (e_bin op_subG (pr_pt 5) (pv 5) (e_look (e_fld (C := 0) (e_pk 0 (pv 0)) E.cls0 E.na_tail))) E.cls0 E.na_turn))))))
theorem sc_Course_at : FnScope [(PySem.Str.ofString "self"), (PySem.Str.ofString "many")] [(PySem.Str.ofString "self"), (PySem.Str.ofString "many")] (defScope x_Course_at) := ⟨rfl, rfl, rfl, by decide +kernel, rfl, by decide +kernel, by decide +kernel⟩
theorem ok_Course_at (E : Env P w K mg ca)  {f : Addr} {fd : FuncData} (F : FnQ K (PySem.Str.ofString "at") (PySem.Str.ofString "Course.at") x_Course_at f fd) : FnOk P w K mg base (L2.CX P w) 1 f fd [(PySem.Str.ofString "self"), (PySem.Str.ofString "many")] (spOf ⟨P, w, K, ca⟩ [false, false] m_Course_at) := by
  refine d_okD F sc_Course_at rfl (by decide) fun cdv A outer s H Ex hr => ?_
  have hu : (cxOf (L2.CX P w) P w K mg base [(PySem.Str.ofString "self"), (PySem.Str.ofString "many")] (PySem.Str.ofString "Course.at") (defScope x_Course_at) f cdv A outer s H Ex).A.units + 65 < cLine := hu_room hr
  have hN := sc_Course_at.nd
  have tk : Takes (cxOf (L2.CX P w) P w K mg base [(PySem.Str.ofString "self"), (PySem.Str.ofString "many")] (PySem.Str.ofString "Course.at") (defScope x_Course_at) f cdv A outer s H Ex) (fun cls d _ H => Ex cls d H) := takes_of rfl rfl rfl rfl
  exact s_cons (s_if (t_cmp (op_ltC) (pr_pt 1) (pv 1) (e_look (e_callB cb_len rfl E.len (by first | rfl | kernel_rfl) (r_one (e_look (e_fld (C := 0) (e_pk 0 (pv 0)) E.cls0 E.na_rows))))) (nomark _)) (s_one (s_ret (e_ix hu pr_tt (e_fld (C := 0) (e_pk 0 (pv 0)) E.cls0 E.na_rows) (e_pk 1 (pv 1))))) (s_nil))
    (s_one (s_ret (e_ix hu pr_tt (e_fld (C := 0) (e_pk 0 (pv 0)) E.cls0 E.na_rows) (e_look (e_bin op_addG pr_tt (e_fld (C := 0) (e_pk 0 (pv 0)) E.cls0 E.na_tail) (e_look (e_bin op_modG pr_tt (e_bin op_subG (pr_pt 1) (pv 1) (e_look (e_fld (C := 0) (e_pk 0 (pv 0)) E.cls0 E.na_tail))) (e_look (e_fld (C := 0) (e_pk 0 (pv 0)) E.cls0 E.na_turn)))))))))
theorem sc_suns_of : FnScope [(PySem.Str.ofString "floor"), (PySem.Str.ofString "sign"), (PySem.Str.ofString "folk"), (PySem.Str.ofString "shady"), (PySem.Str.ofString "number"), (PySem.Str.ofString "cell"), (PySem.Str.ofString "rule")] [(PySem.Str.ofString "floor"), (PySem.Str.ofString "sign"), (PySem.Str.ofString "folk")] (defScope x_suns_of) := ⟨rfl, rfl, rfl, by decide +kernel, rfl, by decide +kernel, by decide +kernel⟩
theorem ok_suns_of (E : Env P w K mg ca) (O_shaded : Own P w K mg base ca 2 (PySem.Str.ofString "shaded") [(PySem.Str.ofString "floor"), (PySem.Str.ofString "sign")] [false, false] m_shaded) {f : Addr} {fd : FuncData} (F : FnQ K (PySem.Str.ofString "suns_of") (PySem.Str.ofString "suns_of") x_suns_of f fd) : FnOk P w K mg base (L2.CX P w) 3 f fd [(PySem.Str.ofString "floor"), (PySem.Str.ofString "sign"), (PySem.Str.ofString "folk")] (spOf ⟨P, w, K, ca⟩ [false, false, false] m_suns_of) := by
  refine d_okD F sc_suns_of rfl (by decide) fun cdv A outer s H Ex hr => ?_
  have hu : (cxOf (L2.CX P w) P w K mg base [(PySem.Str.ofString "floor"), (PySem.Str.ofString "sign"), (PySem.Str.ofString "folk"), (PySem.Str.ofString "shady"), (PySem.Str.ofString "number"), (PySem.Str.ofString "cell"), (PySem.Str.ofString "rule")] (PySem.Str.ofString "suns_of") (defScope x_suns_of) f cdv A outer s H Ex).A.units + 65 < cLine := hu_room hr
  have hN := sc_suns_of.nd
  have tk : Takes (cxOf (L2.CX P w) P w K mg base [(PySem.Str.ofString "floor"), (PySem.Str.ofString "sign"), (PySem.Str.ofString "folk"), (PySem.Str.ofString "shady"), (PySem.Str.ofString "number"), (PySem.Str.ofString "cell"), (PySem.Str.ofString "rule")] (PySem.Str.ofString "suns_of") (defScope x_suns_of) f cdv A outer s H Ex) (fun cls d _ H => Ex cls d H) := takes_of rfl rfl rfl rfl
  exact s_cons (s_set (i := 3) hN rfl (.inr rfl) (by decide) (e_own O_shaded hr (by decide) tk rfl (m_cons (e_rd 0 (pv 0)) (m_cons (e_rd 1 (pv 1)) (m_nil)))))
    (s_one (s_ret (e_lc (own := [((PySem.Str.ofString "number"), 4), ((PySem.Str.ofString "cell"), 5), ((PySem.Str.ofString "rule"), 6)]) rfl hN (i_enum rfl E.enumerate (e_rd 2 (pv 2))) (show BlkOk [(PySem.Str.ofString "floor"), (PySem.Str.ofString "sign"), (PySem.Str.ofString "folk"), (PySem.Str.ofString "shady"), (PySem.Str.ofString "number"), (PySem.Str.ofString "cell"), (PySem.Str.ofString "rule")] (defScope x_suns_of) _ _ from ⟨rfl, by decide +kernel, by decide +kernel, by decide +kernel, by decide +kernel⟩) (fun _ _ _ _ _ => g_tup rfl (gs_cons (g_name (i := 4) hN rfl (.inl rfl) (show 4 ∉ others 7 [4, 5, 6] from by decide)) (gs_cons (g_tup rfl (gs_cons (g_name (i := 5) hN rfl (.inl rfl) (show 5 ∉ others 7 [4, 5, 6] from by decide)) (gs_cons (g_name (i := 6) hN rfl (.inl rfl) (show 6 ∉ others 7 [4, 5, 6] from by decide)) (gs_nil)))) (gs_nil)))) (fun _ _ _ _ _ => ts_one (t_cmp ((op_ninE hu)) (pr_pt 5) (pv 5) (e_pk 3 (pv 3)) (by with_unfolding_all rfl))) (fun _ _ _ _ _ => e_rd 4 (pv 4)))))
theorem sc_first_in_sun : FnScope [(PySem.Str.ofString "floor"), (PySem.Str.ofString "sun"), (PySem.Str.ofString "folk"), (PySem.Str.ofString "found"), (PySem.Str.ofString "at")] [(PySem.Str.ofString "floor"), (PySem.Str.ofString "sun"), (PySem.Str.ofString "folk")] (defScope x_first_in_sun) := ⟨rfl, rfl, rfl, by decide +kernel, rfl, by decide +kernel, by decide +kernel⟩
theorem ok_first_in_sun (E : Env P w K mg ca) (O_Course_init : OwnI P w K mg base ca 0 6 (PySem.Str.ofString "Course") [(PySem.Str.ofString "self"), (PySem.Str.ofString "floor"), (PySem.Str.ofString "sun"), (PySem.Str.ofString "folk")] [false, false, false] m_Course_init) (O_Course_at : OwnM P w K mg base ca 0 1 (PySem.Str.ofString "at") [(PySem.Str.ofString "self"), (PySem.Str.ofString "many")] [false, false] m_Course_at) (O_suns_of : Own P w K mg base ca 3 (PySem.Str.ofString "suns_of") [(PySem.Str.ofString "floor"), (PySem.Str.ofString "sign"), (PySem.Str.ofString "folk")] [false, false, false] m_suns_of) {f : Addr} {fd : FuncData} (F : FnQ K (PySem.Str.ofString "first_in_sun") (PySem.Str.ofString "first_in_sun") x_first_in_sun f fd) : FnOk P w K mg base (L2.CX P w) 8 f fd [(PySem.Str.ofString "floor"), (PySem.Str.ofString "sun"), (PySem.Str.ofString "folk")] (spOf ⟨P, w, K, ca⟩ [false, false, false] m_first_in_sun) := by
  refine d_okD F sc_first_in_sun rfl (by decide) fun cdv A outer s H Ex hr => ?_
  have hu : (cxOf (L2.CX P w) P w K mg base [(PySem.Str.ofString "floor"), (PySem.Str.ofString "sun"), (PySem.Str.ofString "folk"), (PySem.Str.ofString "found"), (PySem.Str.ofString "at")] (PySem.Str.ofString "first_in_sun") (defScope x_first_in_sun) f cdv A outer s H Ex).A.units + 65 < cLine := hu_room hr
  have hN := sc_first_in_sun.nd
  have tk : Takes (cxOf (L2.CX P w) P w K mg base [(PySem.Str.ofString "floor"), (PySem.Str.ofString "sun"), (PySem.Str.ofString "folk"), (PySem.Str.ofString "found"), (PySem.Str.ofString "at")] (PySem.Str.ofString "first_in_sun") (defScope x_first_in_sun) f cdv A outer s H Ex) (fun cls d _ H => Ex cls d H) := takes_of rfl rfl rfl rfl
  exact s_cons (s_set (i := 3) hN rfl (.inl rfl) (by decide) (e_frz (e_ownI O_Course_init hr (by decide) tk rfl (len_cons (len_cons (len_cons (len_nil)))) (a_cons (e_rd 0 (pv 0)) (a_cons (e_rd 1 (pv 1)) (a_cons (e_rd 2 (pv 2)) (a_nil)))))))
    (s_cons (s_for (passes_of rfl) rfl (i_rng1 rfl E.range (r_one (e_look (e_bin op_addG pr_tt (e_fld (C := 0) (e_pk 3 (pv 3)) E.cls0 E.na_tail) (e_look (e_fld (C := 0) (e_pk 3 (pv 3)) E.cls0 E.na_turn)))))) (g_name (i := 4) hN rfl (.inl rfl) (by decide)) (s_one (s_if (t_cmp (op_neC (Nat.lt_of_succ_lt hu)) pr_tt (e_own O_suns_of hr (by decide) tk rfl (m_cons (e_rd 0 (pv 0)) (m_cons (e_ix hu (pr_pt 1) (pv 1) (e_look (e_bin op_modG (pr_pt 4) (pv 4) (e_look (e_callB cb_len rfl E.len (by first | rfl | kernel_rfl) (r_one (e_pk 1 (pv 1)))))))) (m_cons (e_ownM (C := 0) O_Course_at hr (by decide) tk rfl (e_rd 3 (pv 3)) (m_cons (e_bin op_addG (pr_pt 4) (pv 4) (e_look (e_c pe_int fun _ => repI))) (m_nil))) (m_nil))))) (e_look (e_lst (a_nil))) (nomark _)) (s_one (s_ret (e_rd 4 (pv 4)))) (s_nil))))
    (s_one (s_ret (e_c pe_non fun _ => repN))))
theorem sc_is_number : FnScope [(PySem.Str.ofString "part"), (PySem.Str.ofString "low"), (PySem.Str.ofString "high")] [(PySem.Str.ofString "part"), (PySem.Str.ofString "low"), (PySem.Str.ofString "high")] (defScope x_is_number) := ⟨rfl, rfl, rfl, by decide +kernel, rfl, by decide +kernel, by decide +kernel⟩
theorem ok_is_number (E : Env P w K mg ca)  {f : Addr} {fd : FuncData} (F : FnQ K (PySem.Str.ofString "is_number") (PySem.Str.ofString "is_number") x_is_number f fd) : FnOk P w K mg base (L2.CX P w) 1 f fd [(PySem.Str.ofString "part"), (PySem.Str.ofString "low"), (PySem.Str.ofString "high")] (spOf ⟨P, w, K, ca⟩ [false, false, false] m_is_number) := by
  refine d_okD F sc_is_number rfl (by decide) fun cdv A outer s H Ex hr => ?_
  have hu : (cxOf (L2.CX P w) P w K mg base [(PySem.Str.ofString "part"), (PySem.Str.ofString "low"), (PySem.Str.ofString "high")] (PySem.Str.ofString "is_number") (defScope x_is_number) f cdv A outer s H Ex).A.units + 65 < cLine := hu_room hr
  have hN := sc_is_number.nd
  have tk : Takes (cxOf (L2.CX P w) P w K mg base [(PySem.Str.ofString "part"), (PySem.Str.ofString "low"), (PySem.Str.ofString "high")] (PySem.Str.ofString "is_number") (defScope x_is_number) f cdv A outer s H Ex) (fun cls d _ H => Ex cls d H) := takes_of rfl rfl rfl rfl
  exact s_one (s_ret (e_and (e_asb (e_callB cb_isi rfl E.isinstance (by first | rfl | kernel_rfl) (r_two (pr_pt 0) (pv 0) (e_look (e_gT E.int (by first | rfl | kernel_rfl)))))) (e_and (e_not (e_asb (e_callB cb_isi rfl E.isinstance (by first | rfl | kernel_rfl) (r_two (pr_pt 0) (pv 0) (e_look (e_gT E.bool (by first | rfl | kernel_rfl))))))) (pe_one (e_chain (op_leC) (op_leC) (e_pk 1 (pv 1)) (e_pk 0 (pv 0)) (e_pk 2 (pv 2)))))))
theorem sc_is_cell : FnScope [(PySem.Str.ofString "part"), (PySem.Str.ofString "floor")] [(PySem.Str.ofString "part"), (PySem.Str.ofString "floor")] (defScope x_is_cell) := ⟨rfl, rfl, rfl, by decide +kernel, rfl, by decide +kernel, by decide +kernel⟩
theorem ok_is_cell (E : Env P w K mg ca) (O_is_number : Own P w K mg base ca 1 (PySem.Str.ofString "is_number") [(PySem.Str.ofString "part"), (PySem.Str.ofString "low"), (PySem.Str.ofString "high")] [false, false, false] m_is_number) {f : Addr} {fd : FuncData} (F : FnQ K (PySem.Str.ofString "is_cell") (PySem.Str.ofString "is_cell") x_is_cell f fd) : FnOk P w K mg base (L2.CX P w) 2 f fd [(PySem.Str.ofString "part"), (PySem.Str.ofString "floor")] (spOf ⟨P, w, K, ca⟩ [false, false] m_is_cell) := by
  refine d_okD F sc_is_cell rfl (by decide) fun cdv A outer s H Ex hr => ?_
  have hu : (cxOf (L2.CX P w) P w K mg base [(PySem.Str.ofString "part"), (PySem.Str.ofString "floor")] (PySem.Str.ofString "is_cell") (defScope x_is_cell) f cdv A outer s H Ex).A.units + 65 < cLine := hu_room hr
  have hN := sc_is_cell.nd
  have tk : Takes (cxOf (L2.CX P w) P w K mg base [(PySem.Str.ofString "part"), (PySem.Str.ofString "floor")] (PySem.Str.ofString "is_cell") (defScope x_is_cell) f cdv A outer s H Ex) (fun cls d _ H => Ex cls d H) := takes_of rfl rfl rfl rfl
  exact s_cons (s_if (PW.pt (t_or (t_not (t_val (e_look (e_callB cb_isi rfl E.isinstance (by first | rfl | kernel_rfl) (r_two (pr_pt 0) (pv 0) (e_look (e_gT E.tuple (by first | rfl | kernel_rfl)))))))) (pw_or1 (t_cmp (op_neC (Nat.lt_of_succ_lt hu)) pr_tt (e_callB cb_len rfl E.len (by first | rfl | kernel_rfl) (r_one (e_pk 0 (pv 0)))) (e_look (e_c pe_int fun _ => repI)) (nomark _))))) (s_one (s_ret (e_c pe_bl fun _ => repB))) (s_nil))
    (s_one (s_ret (e_and (e_asb (e_own O_is_number hr (by decide) tk rfl (m_cons (e_ix hu (pr_pt 0) (pv 0) (e_look (e_c pe_int fun _ => repI))) (m_cons (e_c pe_int fun _ => repI) (m_cons (e_bin op_subG pr_tt (e_ix hu (pr_pt 1) (pv 1) (e_look (e_c pe_int fun _ => repI))) (e_look (e_c pe_int fun _ => repI))) (m_nil)))))) (pe_one (e_asb (e_own O_is_number hr (by decide) tk rfl (m_cons (e_ix hu (pr_pt 0) (pv 0) (e_look (e_c pe_int fun _ => repI))) (m_cons (e_c pe_int fun _ => repI) (m_cons (e_bin op_subG pr_tt (e_ix hu (pr_pt 1) (pv 1) (e_look (e_c pe_int fun _ => repI))) (e_look (e_c pe_int fun _ => repI))) (m_nil))))))))))
theorem sc_is_post : FnScope [(PySem.Str.ofString "part"), (PySem.Str.ofString "floor")] [(PySem.Str.ofString "part"), (PySem.Str.ofString "floor")] (defScope x_is_post) := ⟨rfl, rfl, rfl, by decide +kernel, rfl, by decide +kernel, by decide +kernel⟩
theorem ok_is_post (E : Env P w K mg ca) (O_is_cell : Own P w K mg base ca 2 (PySem.Str.ofString "is_cell") [(PySem.Str.ofString "part"), (PySem.Str.ofString "floor")] [false, false] m_is_cell) (O_is_number : Own P w K mg base ca 1 (PySem.Str.ofString "is_number") [(PySem.Str.ofString "part"), (PySem.Str.ofString "low"), (PySem.Str.ofString "high")] [false, false, false] m_is_number) {f : Addr} {fd : FuncData} (F : FnQ K (PySem.Str.ofString "is_post") (PySem.Str.ofString "is_post") x_is_post f fd) : FnOk P w K mg base (L2.CX P w) 3 f fd [(PySem.Str.ofString "part"), (PySem.Str.ofString "floor")] (spOf ⟨P, w, K, ca⟩ [false, false] m_is_post) := by
  refine d_okD F sc_is_post rfl (by decide) fun cdv A outer s H Ex hr => ?_
  have hu : (cxOf (L2.CX P w) P w K mg base [(PySem.Str.ofString "part"), (PySem.Str.ofString "floor")] (PySem.Str.ofString "is_post") (defScope x_is_post) f cdv A outer s H Ex).A.units + 65 < cLine := hu_room hr
  have hN := sc_is_post.nd
  have tk : Takes (cxOf (L2.CX P w) P w K mg base [(PySem.Str.ofString "part"), (PySem.Str.ofString "floor")] (PySem.Str.ofString "is_post") (defScope x_is_post) f cdv A outer s H Ex) (fun cls d _ H => Ex cls d H) := takes_of rfl rfl rfl rfl
  exact s_cons (s_if (PW.pt (t_or (t_not (t_val (e_look (e_callB cb_isi rfl E.isinstance (by first | rfl | kernel_rfl) (r_two (pr_pt 0) (pv 0) (e_look (e_gT E.tuple (by first | rfl | kernel_rfl)))))))) (pw_or1 (t_cmp (op_neC (Nat.lt_of_succ_lt hu)) pr_tt (e_callB cb_len rfl E.len (by first | rfl | kernel_rfl) (r_one (e_pk 0 (pv 0)))) (e_look (e_c pe_int fun _ => repI)) (nomark _))))) (s_one (s_ret (e_c pe_bl fun _ => repB))) (s_nil))
    (s_one (s_ret (e_and (e_asb (e_own O_is_cell hr (by decide) tk rfl (m_cons (e_sliP 0 (pv 0) p_none (p_some (e_look (e_c pe_int fun _ => repI)))) (m_cons (e_rd 1 (pv 1)) (m_nil))))) (pe_one (e_asb (e_own O_is_number hr (by decide) tk rfl (m_cons (e_ix hu (pr_pt 0) (pv 0) (e_look (e_c pe_int fun _ => repI))) (m_cons (e_c pe_int fun _ => repI) (m_cons (e_gI E.MOST_HIGH) (m_nil))))))))))
theorem sc_need_floor : FnScope [(PySem.Str.ofString "floor"), (PySem.Str.ofString "number"), (PySem.Str.ofString "part"), (PySem.Str.ofString "most"), (PySem.Str.ofString "known"), (PySem.Str.ofString "one"), (PySem.Str.ofString "good")] [(PySem.Str.ofString "floor")] (defScope x_need_floor) := ⟨rfl, rfl, rfl, by decide +kernel, rfl, by decide +kernel, by decide +kernel⟩
theorem ok_need_floor (E : Env P w K mg ca) (O_is_cell : Own P w K mg base ca 2 (PySem.Str.ofString "is_cell") [(PySem.Str.ofString "part"), (PySem.Str.ofString "floor")] [false, false] m_is_cell) (O_is_number : Own P w K mg base ca 1 (PySem.Str.ofString "is_number") [(PySem.Str.ofString "part"), (PySem.Str.ofString "low"), (PySem.Str.ofString "high")] [false, false, false] m_is_number) (O_is_post : Own P w K mg base ca 3 (PySem.Str.ofString "is_post") [(PySem.Str.ofString "part"), (PySem.Str.ofString "floor")] [false, false] m_is_post) {f : Addr} {fd : FuncData} (F : FnQ K (PySem.Str.ofString "need_floor") (PySem.Str.ofString "need_floor") x_need_floor f fd) : FnOk P w K mg base (L2.CX P w) 4 f fd [(PySem.Str.ofString "floor")] (spOf ⟨P, w, K, ca⟩ [false] m_need_floor) := by
  refine d_okD F sc_need_floor rfl (by decide) fun cdv A outer s H Ex hr => ?_
  have hu : (cxOf (L2.CX P w) P w K mg base [(PySem.Str.ofString "floor"), (PySem.Str.ofString "number"), (PySem.Str.ofString "part"), (PySem.Str.ofString "most"), (PySem.Str.ofString "known"), (PySem.Str.ofString "one"), (PySem.Str.ofString "good")] (PySem.Str.ofString "need_floor") (defScope x_need_floor) f cdv A outer s H Ex).A.units + 65 < cLine := hu_room hr
  have hN := sc_need_floor.nd
  have tk : Takes (cxOf (L2.CX P w) P w K mg base [(PySem.Str.ofString "floor"), (PySem.Str.ofString "number"), (PySem.Str.ofString "part"), (PySem.Str.ofString "most"), (PySem.Str.ofString "known"), (PySem.Str.ofString "one"), (PySem.Str.ofString "good")] (PySem.Str.ofString "need_floor") (defScope x_need_floor) f cdv A outer s H Ex) (fun cls d _ H => Ex cls d H) := takes_of rfl rfl rfl rfl
  exact s_cons (s_if (PW.pt (t_or (t_not (t_val (e_look (e_callB cb_isi rfl E.isinstance (by first | rfl | kernel_rfl) (r_two (pr_pt 0) (pv 0) (e_look (e_gT E.tuple (by first | rfl | kernel_rfl)))))))) (pw_or1 (t_cmp (op_neC (Nat.lt_of_succ_lt hu)) pr_tt (e_callB cb_len rfl E.len (by first | rfl | kernel_rfl) (r_one (e_pk 0 (pv 0)))) (e_look (e_c pe_int fun _ => repI)) (nomark _))))) (s_one (s_never)) (s_nil))
    (s_cons (s_for (passes_of rfl) rfl (i_rng1 rfl E.range (r_one (e_look (e_c pe_int fun _ => repI)))) (g_name (i := 1) hN rfl (.inl rfl) (by decide)) (s_one (s_if (t_not (t_val (e_look (e_own O_is_number hr (by decide) tk rfl (m_cons (e_ix hu (pr_pt 0) (pv 0) (e_pk 1 (pv 1))) (m_cons (e_c pe_int fun _ => repI) (m_cons (e_gI E.MOST_SIDE) (m_nil)))))))) (s_one (s_never)) (s_nil))))
    (s_one (s_for (passes_of rfl) rfl (i_seq (e_tup (a_cons (e_tup (a_cons (e_c pe_int fun _ => repI) (a_cons (e_gI E.MOST_POSTS) (a_nil)))) (a_cons (e_tup (a_cons (e_c pe_int fun _ => repI) (a_cons (e_gI E.MOST_AWNINGS) (a_nil)))) (a_nil))))) (g_tup rfl (gs_cons (g_name (i := 2) hN rfl (.inl rfl) (by decide)) (gs_cons (g_name (i := 3) hN rfl (.inl rfl) (by decide)) (gs_nil)))) (s_cons (s_if (t_not (t_val (e_look (e_callB cb_isi rfl E.isinstance (by first | rfl | kernel_rfl) (r_two pr_tt (e_ix hu (pr_pt 0) (pv 0) (e_pk 2 (pv 2))) (e_look (e_gT E.tuple (by first | rfl | kernel_rfl)))))))) (s_one (s_never)) (s_nil))
    (s_cons (s_set (i := 4) hN rfl (.inl rfl) (by decide) (e_lst (a_nil)))
    (s_one (s_for (passes_of rfl) rfl (i_enum rfl E.enumerate (e_ix hu (pr_pt 0) (pv 0) (e_pk 2 (pv 2)))) (g_tup rfl (gs_cons (g_name (i := 1) hN rfl (.inl rfl) (by decide)) (gs_cons (g_name (i := 5) hN rfl (.inl rfl) (by decide)) (gs_nil)))) (s_cons (s_set (i := 6) hN rfl (.inl rfl) (by decide) (e_ite (t_cmp (op_eqC (Nat.lt_of_succ_lt hu)) (pr_pt 2) (pv 2) (e_look (e_c pe_int fun _ => repI)) (nomark _)) (e_own O_is_post hr (by decide) tk rfl (m_cons (e_rd 5 (pv 5)) (m_cons (e_rd 0 (pv 0)) (m_nil)))) (e_own O_is_cell hr (by decide) tk rfl (m_cons (e_rd 5 (pv 5)) (m_cons (e_rd 0 (pv 0)) (m_nil))))))
    (s_cons (s_if (PW.pt (t_or (t_cmp (op_eqC (Nat.lt_of_succ_lt hu)) (pr_pt 1) (pv 1) (e_pk 3 (pv 3)) (nomark _)) (t_or (t_not (t_val (e_pk 6 (pv 6)))) (pw_or1 (t_cmp ((op_inE hu)) pr_tt (e_sliP 5 (pv 5) p_none (p_some (e_look (e_c pe_int fun _ => repI)))) (e_pk 4 (pv 4)) (by with_unfolding_all rfl)))))) (s_one (s_never)) (s_nil))
    (s_one (s_expr (e_append 4 (pv 4) (e_sliP 5 (pv 5) p_none (p_some (e_look (e_c pe_int fun _ => repI))))))))))))))))
theorem sc_need_folk : FnScope [(PySem.Str.ofString "floor"), (PySem.Str.ofString "folk"), (PySem.Str.ofString "posts"), (PySem.Str.ofString "seats"), (PySem.Str.ofString "number"), (PySem.Str.ofString "one"), (PySem.Str.ofString "cell"), (PySem.Str.ofString "rule"), (PySem.Str.ofString "post")] [(PySem.Str.ofString "floor"), (PySem.Str.ofString "folk")] (defScope x_need_folk) := ⟨rfl, rfl, rfl, by decide +kernel, rfl, by decide +kernel, by decide +kernel⟩
theorem ok_need_folk (E : Env P w K mg ca) (O_is_cell : Own P w K mg base ca 2 (PySem.Str.ofString "is_cell") [(PySem.Str.ofString "part"), (PySem.Str.ofString "floor")] [false, false] m_is_cell) {f : Addr} {fd : FuncData} (F : FnQ K (PySem.Str.ofString "need_folk") (PySem.Str.ofString "need_folk") x_need_folk f fd) : FnOk P w K mg base (L2.CX P w) 3 f fd [(PySem.Str.ofString "floor"), (PySem.Str.ofString "folk")] (spOf ⟨P, w, K, ca⟩ [false, false] m_need_folk) := by
  refine d_okD F sc_need_folk rfl (by decide) fun cdv A outer s H Ex hr => ?_
  have hu : (cxOf (L2.CX P w) P w K mg base [(PySem.Str.ofString "floor"), (PySem.Str.ofString "folk"), (PySem.Str.ofString "posts"), (PySem.Str.ofString "seats"), (PySem.Str.ofString "number"), (PySem.Str.ofString "one"), (PySem.Str.ofString "cell"), (PySem.Str.ofString "rule"), (PySem.Str.ofString "post")] (PySem.Str.ofString "need_folk") (defScope x_need_folk) f cdv A outer s H Ex).A.units + 65 < cLine := hu_room hr
  have hN := sc_need_folk.nd
  have tk : Takes (cxOf (L2.CX P w) P w K mg base [(PySem.Str.ofString "floor"), (PySem.Str.ofString "folk"), (PySem.Str.ofString "posts"), (PySem.Str.ofString "seats"), (PySem.Str.ofString "number"), (PySem.Str.ofString "one"), (PySem.Str.ofString "cell"), (PySem.Str.ofString "rule"), (PySem.Str.ofString "post")] (PySem.Str.ofString "need_folk") (defScope x_need_folk) f cdv A outer s H Ex) (fun cls d _ H => Ex cls d H) := takes_of rfl rfl rfl rfl
  exact s_cons (s_if (t_not (t_val (e_look (e_callB cb_isi rfl E.isinstance (by first | rfl | kernel_rfl) (r_two (pr_pt 1) (pv 1) (e_look (e_gT E.tuple (by first | rfl | kernel_rfl)))))))) (s_one (s_never)) (s_nil))
    (s_cons (s_setLc (own := [((PySem.Str.ofString "post"), 8)]) (i := 2) rfl hN rfl rfl (by decide) rfl (i_seq (e_ix hu (pr_pt 0) (pv 0) (e_look (e_c pe_int fun _ => repI)))) (show BlkOk [(PySem.Str.ofString "floor"), (PySem.Str.ofString "folk"), (PySem.Str.ofString "posts"), (PySem.Str.ofString "seats"), (PySem.Str.ofString "number"), (PySem.Str.ofString "one"), (PySem.Str.ofString "cell"), (PySem.Str.ofString "rule"), (PySem.Str.ofString "post")] (defScope x_need_folk) _ _ from ⟨rfl, by decide +kernel, by decide +kernel, by decide +kernel, by decide +kernel⟩) (fun _ _ _ _ _ => g_name (i := 8) hN rfl (.inl rfl) (show 8 ∉ others 9 [8] from by decide)) (fun _ _ _ _ _ => ts_nil) (fun _ _ _ _ _ => e_sliP 8 (pv 8) p_none (p_some (e_look (e_c pe_int fun _ => repI)))))
    (s_cons (s_set (i := 3) hN rfl (.inl rfl) (by decide) (e_lst (a_nil)))
    (s_one (s_for (passes_of rfl) rfl (i_enum rfl E.enumerate (e_rd 1 (pv 1))) (g_tup rfl (gs_cons (g_name (i := 4) hN rfl (.inl rfl) (by decide)) (gs_cons (g_name (i := 5) hN rfl (.inl rfl) (by decide)) (gs_nil)))) (s_cons (s_if (PW.pt (t_or (t_cmp (op_eqC (Nat.lt_of_succ_lt hu)) (pr_pt 4) (pv 4) (e_look (e_gI E.MOST_FOLK)) (nomark _)) (t_or (t_not (t_val (e_look (e_callB cb_isi rfl E.isinstance (by first | rfl | kernel_rfl) (r_two (pr_pt 5) (pv 5) (e_look (e_gT E.tuple (by first | rfl | kernel_rfl)))))))) (pw_or1 (t_cmp (op_neC (Nat.lt_of_succ_lt hu)) pr_tt (e_callB cb_len rfl E.len (by first | rfl | kernel_rfl) (r_one (e_pk 5 (pv 5)))) (e_look (e_c pe_int fun _ => repI)) (nomark _)))))) (s_one (s_never)) (s_nil))
    (s_cons (s_asg (e_rd 5 (pv 5)) (g_tup rfl (gs_cons (g_name (i := 6) hN rfl (.inl rfl) (by decide)) (gs_cons (g_name (i := 7) hN rfl (.inl rfl) (by decide)) (gs_nil)))))
    (s_cons (s_if (PW.pt (t_or (t_not (t_val (e_look (e_own O_is_cell hr (by decide) tk rfl (m_cons (e_rd 6 (pv 6)) (m_cons (e_rd 0 (pv 0)) (m_nil))))))) (t_or (t_cmp ((op_inE hu)) (pr_pt 6) (pv 6) (e_pk 2 (pv 2)) (by with_unfolding_all rfl)) (t_or (t_cmp ((op_inE hu)) (pr_pt 6) (pv 6) (e_pk 3 (pv 3)) (by with_unfolding_all rfl)) (t_or (t_not (t_val (e_look (e_callB cb_isi rfl E.isinstance (by first | rfl | kernel_rfl) (r_two (pr_pt 7) (pv 7) (e_look (e_gT E.str (by first | rfl | kernel_rfl)))))))) (pw_or1 (t_cmp ((op_ninE hu)) (pr_pt 7) (pv 7) (e_look (e_gD E.RULES)) (by with_unfolding_all rfl)))))))) (s_one (s_never)) (s_nil))
    (s_one (s_expr (e_append 3 (pv 3) (e_rd 6 (pv 6))))))))))))
theorem sc_need_sun : FnScope [(PySem.Str.ofString "sun"), (PySem.Str.ofString "number"), (PySem.Str.ofString "sign")] [(PySem.Str.ofString "sun")] (defScope x_need_sun) := ⟨rfl, rfl, rfl, by decide +kernel, rfl, by decide +kernel, by decide +kernel⟩
theorem ok_need_sun (E : Env P w K mg ca)  {f : Addr} {fd : FuncData} (F : FnQ K (PySem.Str.ofString "need_sun") (PySem.Str.ofString "need_sun") x_need_sun f fd) : FnOk P w K mg base (L2.CX P w) 1 f fd [(PySem.Str.ofString "sun")] (spOf ⟨P, w, K, ca⟩ [false] m_need_sun) := by
  refine d_okD F sc_need_sun rfl (by decide) fun cdv A outer s H Ex hr => ?_
  have hu : (cxOf (L2.CX P w) P w K mg base [(PySem.Str.ofString "sun"), (PySem.Str.ofString "number"), (PySem.Str.ofString "sign")] (PySem.Str.ofString "need_sun") (defScope x_need_sun) f cdv A outer s H Ex).A.units + 65 < cLine := hu_room hr
  have hN := sc_need_sun.nd
  have tk : Takes (cxOf (L2.CX P w) P w K mg base [(PySem.Str.ofString "sun"), (PySem.Str.ofString "number"), (PySem.Str.ofString "sign")] (PySem.Str.ofString "need_sun") (defScope x_need_sun) f cdv A outer s H Ex) (fun cls d _ H => Ex cls d H) := takes_of rfl rfl rfl rfl
  exact s_cons (s_if (PW.pt (t_or (t_not (t_val (e_look (e_callB cb_isi rfl E.isinstance (by first | rfl | kernel_rfl) (r_two (pr_pt 0) (pv 0) (e_look (e_gT E.str (by first | rfl | kernel_rfl)))))))) (pw_or1 (t_cmp (op_eqC (Nat.lt_of_succ_lt hu)) (pr_pt 0) (pv 0) (e_look (e_c pe_str fun _ => repS)) (nomark _))))) (s_one (s_never)) (s_nil))
    (s_one (s_for (passes_of rfl) rfl (i_enum rfl E.enumerate (e_rd 0 (pv 0))) (g_tup rfl (gs_cons (g_name (i := 1) hN rfl (.inl rfl) (by decide)) (gs_cons (g_name (i := 2) hN rfl (.inl rfl) (by decide)) (gs_nil)))) (s_one (s_if (PW.pt (t_or (t_cmp (op_eqC (Nat.lt_of_succ_lt hu)) (pr_pt 1) (pv 1) (e_look (e_gI E.MOST_BEATS)) (nomark _)) (pw_or1 (t_cmp ((op_ninE hu)) (pr_pt 2) (pv 2) (e_look (e_gD E.STEPS)) (by with_unfolding_all rfl))))) (s_one (s_never)) (s_nil)))))
theorem sc_need_all : FnScope [(PySem.Str.ofString "floor"), (PySem.Str.ofString "sun"), (PySem.Str.ofString "folk")] [(PySem.Str.ofString "floor"), (PySem.Str.ofString "sun"), (PySem.Str.ofString "folk")] (defScope x_need_all) := ⟨rfl, rfl, rfl, by decide +kernel, rfl, by decide +kernel, by decide +kernel⟩
theorem ok_need_all (E : Env P w K mg ca) (O_need_floor : Own P w K mg base ca 4 (PySem.Str.ofString "need_floor") [(PySem.Str.ofString "floor")] [false] m_need_floor) (O_need_folk : Own P w K mg base ca 3 (PySem.Str.ofString "need_folk") [(PySem.Str.ofString "floor"), (PySem.Str.ofString "folk")] [false, false] m_need_folk) (O_need_sun : Own P w K mg base ca 1 (PySem.Str.ofString "need_sun") [(PySem.Str.ofString "sun")] [false] m_need_sun) {f : Addr} {fd : FuncData} (F : FnQ K (PySem.Str.ofString "need_all") (PySem.Str.ofString "need_all") x_need_all f fd) : FnOk P w K mg base (L2.CX P w) 5 f fd [(PySem.Str.ofString "floor"), (PySem.Str.ofString "sun"), (PySem.Str.ofString "folk")] (spOf ⟨P, w, K, ca⟩ [false, false, false] m_need_all) := by
  refine d_okD F sc_need_all rfl (by decide) fun cdv A outer s H Ex hr => ?_
  have hu : (cxOf (L2.CX P w) P w K mg base [(PySem.Str.ofString "floor"), (PySem.Str.ofString "sun"), (PySem.Str.ofString "folk")] (PySem.Str.ofString "need_all") (defScope x_need_all) f cdv A outer s H Ex).A.units + 65 < cLine := hu_room hr
  have hN := sc_need_all.nd
  have tk : Takes (cxOf (L2.CX P w) P w K mg base [(PySem.Str.ofString "floor"), (PySem.Str.ofString "sun"), (PySem.Str.ofString "folk")] (PySem.Str.ofString "need_all") (defScope x_need_all) f cdv A outer s H Ex) (fun cls d _ H => Ex cls d H) := takes_of rfl rfl rfl rfl
  exact s_cons (s_expr (e_own O_need_floor hr (by decide) tk rfl (m_cons (e_rd 0 (pv 0)) (m_nil))))
    (s_cons (s_expr (e_own O_need_sun hr (by decide) tk rfl (m_cons (e_rd 1 (pv 1)) (m_nil))))
    (s_one (s_expr (e_own O_need_folk hr (by decide) tk rfl (m_cons (e_rd 0 (pv 0)) (m_cons (e_rd 2 (pv 2)) (m_nil)))))))
theorem sc_need_count : FnScope [(PySem.Str.ofString "number"), (PySem.Str.ofString "low"), (PySem.Str.ofString "high")] [(PySem.Str.ofString "number"), (PySem.Str.ofString "low"), (PySem.Str.ofString "high")] (defScope x_need_count) := ⟨rfl, rfl, rfl, by decide +kernel, rfl, by decide +kernel, by decide +kernel⟩
theorem ok_need_count (E : Env P w K mg ca) (O_is_number : Own P w K mg base ca 1 (PySem.Str.ofString "is_number") [(PySem.Str.ofString "part"), (PySem.Str.ofString "low"), (PySem.Str.ofString "high")] [false, false, false] m_is_number) {f : Addr} {fd : FuncData} (F : FnQ K (PySem.Str.ofString "need_count") (PySem.Str.ofString "need_count") x_need_count f fd) : FnOk P w K mg base (L2.CX P w) 2 f fd [(PySem.Str.ofString "number"), (PySem.Str.ofString "low"), (PySem.Str.ofString "high")] (spOf ⟨P, w, K, ca⟩ [false, false, false] m_need_count) := by
  refine d_okD F sc_need_count rfl (by decide) fun cdv A outer s H Ex hr => ?_
  have hu : (cxOf (L2.CX P w) P w K mg base [(PySem.Str.ofString "number"), (PySem.Str.ofString "low"), (PySem.Str.ofString "high")] (PySem.Str.ofString "need_count") (defScope x_need_count) f cdv A outer s H Ex).A.units + 65 < cLine := hu_room hr
  have hN := sc_need_count.nd
  have tk : Takes (cxOf (L2.CX P w) P w K mg base [(PySem.Str.ofString "number"), (PySem.Str.ofString "low"), (PySem.Str.ofString "high")] (PySem.Str.ofString "need_count") (defScope x_need_count) f cdv A outer s H Ex) (fun cls d _ H => Ex cls d H) := takes_of rfl rfl rfl rfl
  exact s_one (s_if (t_not (t_val (e_look (e_own O_is_number hr (by decide) tk rfl (m_cons (e_rd 0 (pv 0)) (m_cons (e_rd 1 (pv 1)) (m_cons (e_rd 2 (pv 2)) (m_nil)))))))) (s_one (s_never)) (s_nil))
theorem sc_awnings : FnScope [(PySem.Str.ofString "floor"), (PySem.Str.ofString "sun"), (PySem.Str.ofString "folk"), (PySem.Str.ofString "most"), (PySem.Str.ofString "free"), (PySem.Str.ofString "size"), (PySem.Str.ofString "more"), (PySem.Str.ofString "cell")] [(PySem.Str.ofString "floor"), (PySem.Str.ofString "sun"), (PySem.Str.ofString "folk"), (PySem.Str.ofString "most")] (defScope x_awnings) := ⟨rfl, rfl, rfl, by decide +kernel, rfl, by decide +kernel, by decide +kernel⟩
theorem ok_awnings (E : Env P w K mg ca) (O_all_cells : Own P w K mg base ca 1 (PySem.Str.ofString "all_cells") [(PySem.Str.ofString "floor")] [false] m_all_cells) (O_chosen : Own P w K mg base ca 6 (PySem.Str.ofString "chosen") [(PySem.Str.ofString "cells"), (PySem.Str.ofString "size")] [false, false] (m_chosen 5)) (O_first_in_sun : Own P w K mg base ca 8 (PySem.Str.ofString "first_in_sun") [(PySem.Str.ofString "floor"), (PySem.Str.ofString "sun"), (PySem.Str.ofString "folk")] [false, false, false] m_first_in_sun) (O_need_all : Own P w K mg base ca 5 (PySem.Str.ofString "need_all") [(PySem.Str.ofString "floor"), (PySem.Str.ofString "sun"), (PySem.Str.ofString "folk")] [false, false, false] m_need_all) (O_need_count : Own P w K mg base ca 2 (PySem.Str.ofString "need_count") [(PySem.Str.ofString "number"), (PySem.Str.ofString "low"), (PySem.Str.ofString "high")] [false, false, false] m_need_count) {f : Addr} {fd : FuncData} (F : FnQ K (PySem.Str.ofString "awnings") (PySem.Str.ofString "awnings") x_awnings f fd) : FnOk P w K mg base (L2.CX P w) 9 f fd [(PySem.Str.ofString "floor"), (PySem.Str.ofString "sun"), (PySem.Str.ofString "folk"), (PySem.Str.ofString "most")] (spOf ⟨P, w, K, ca⟩ [false, false, false, false] m_awnings) := by
  refine d_okD F sc_awnings rfl (by decide) fun cdv A outer s H Ex hr => ?_
  have hu : (cxOf (L2.CX P w) P w K mg base [(PySem.Str.ofString "floor"), (PySem.Str.ofString "sun"), (PySem.Str.ofString "folk"), (PySem.Str.ofString "most"), (PySem.Str.ofString "free"), (PySem.Str.ofString "size"), (PySem.Str.ofString "more"), (PySem.Str.ofString "cell")] (PySem.Str.ofString "awnings") (defScope x_awnings) f cdv A outer s H Ex).A.units + 65 < cLine := hu_room hr
  have hN := sc_awnings.nd
  have tk : Takes (cxOf (L2.CX P w) P w K mg base [(PySem.Str.ofString "floor"), (PySem.Str.ofString "sun"), (PySem.Str.ofString "folk"), (PySem.Str.ofString "most"), (PySem.Str.ofString "free"), (PySem.Str.ofString "size"), (PySem.Str.ofString "more"), (PySem.Str.ofString "cell")] (PySem.Str.ofString "awnings") (defScope x_awnings) f cdv A outer s H Ex) (fun cls d _ H => Ex cls d H) := takes_of rfl rfl rfl rfl
  exact s_cons (s_expr (e_own O_need_all hr (by decide) tk rfl (m_cons (e_rd 0 (pv 0)) (m_cons (e_rd 1 (pv 1)) (m_cons (e_rd 2 (pv 2)) (m_nil))))))
    (s_cons (s_expr (e_own O_need_count hr (by decide) tk rfl (m_cons (e_rd 3 (pv 3)) (m_cons (e_c pe_int fun _ => repI) (m_cons (e_gI E.MOST_MORE) (m_nil))))))
    (s_cons (s_setLc (own := [((PySem.Str.ofString "cell"), 7)]) (i := 4) rfl hN rfl rfl (by decide) rfl (i_seq (e_own O_all_cells hr (by decide) tk rfl (m_cons (e_rd 0 (pv 0)) (m_nil)))) (show BlkOk [(PySem.Str.ofString "floor"), (PySem.Str.ofString "sun"), (PySem.Str.ofString "folk"), (PySem.Str.ofString "most"), (PySem.Str.ofString "free"), (PySem.Str.ofString "size"), (PySem.Str.ofString "more"), (PySem.Str.ofString "cell")] (defScope x_awnings) _ _ from ⟨rfl, by decide +kernel, by decide +kernel, by decide +kernel, by decide +kernel⟩) (fun _ _ _ _ _ => g_name (i := 7) hN rfl (.inl rfl) (show 7 ∉ others 8 [7] from by decide)) (fun _ _ _ _ _ => ts_one (t_cmp ((op_ninE hu)) (pr_pt 7) (pv 7) (e_look (e_ix hu (pr_pt 0) (pv 0) (e_look (e_c pe_int fun _ => repI)))) (by with_unfolding_all rfl))) (fun _ _ _ _ _ => e_rd 7 (pv 7)))
    (s_cons (s_for (passes_of rfl) rfl (i_rng1 rfl E.range (r_one (e_look (e_bin op_addG (pr_pt 3) (pv 3) (e_look (e_c pe_int fun _ => repI)))))) (g_name (i := 5) hN rfl (.inl rfl) (by decide)) (s_one (s_for (passes_of rfl) rfl (i_seq (e_own O_chosen hr (by decide) tk rfl (m_cons (e_rd 4 (pv 4)) (m_cons (e_rd 5 (pv 5)) (m_nil))))) (g_name (i := 6) hN rfl (.inl rfl) (by decide)) (s_one (s_if (t_cmp (op_isC) pr_tt (e_own O_first_in_sun hr (by decide) tk rfl (m_cons (e_bin op_addG pr_tt (e_sliP 0 (pv 0) p_none (p_some (e_look (e_c pe_int fun _ => repI)))) (e_look (e_tup (a_cons (e_bin op_addG pr_tt (e_ix hu (pr_pt 0) (pv 0) (e_look (e_c pe_int fun _ => repI))) (e_pk 6 (pv 6))) (a_nil))))) (m_cons (e_rd 1 (pv 1)) (m_cons (e_rd 2 (pv 2)) (m_nil))))) (e_look (e_c pe_non fun _ => repN)) (nomark _)) (s_one (s_ret (e_rd 6 (pv 6)))) (s_nil))))))
    (s_one (s_ret (e_c pe_non fun _ => repN))))))
theorem sc_seats_of : FnScope [(PySem.Str.ofString "folk"), (PySem.Str.ofString "cell"), (PySem.Str.ofString "rule")] [(PySem.Str.ofString "folk")] (defScope x_seats_of) := ⟨rfl, rfl, rfl, by decide +kernel, rfl, by decide +kernel, by decide +kernel⟩
theorem ok_seats_of (E : Env P w K mg ca)  {f : Addr} {fd : FuncData} (F : FnQ K (PySem.Str.ofString "seats_of") (PySem.Str.ofString "seats_of") x_seats_of f fd) : FnOk P w K mg base (L2.CX P w) 1 f fd [(PySem.Str.ofString "folk")] (spOf ⟨P, w, K, ca⟩ [false] m_seats_of) := by
  refine d_okD F sc_seats_of rfl (by decide) fun cdv A outer s H Ex hr => ?_
  have hu : (cxOf (L2.CX P w) P w K mg base [(PySem.Str.ofString "folk"), (PySem.Str.ofString "cell"), (PySem.Str.ofString "rule")] (PySem.Str.ofString "seats_of") (defScope x_seats_of) f cdv A outer s H Ex).A.units + 65 < cLine := hu_room hr
  have hN := sc_seats_of.nd
  have tk : Takes (cxOf (L2.CX P w) P w K mg base [(PySem.Str.ofString "folk"), (PySem.Str.ofString "cell"), (PySem.Str.ofString "rule")] (PySem.Str.ofString "seats_of") (defScope x_seats_of) f cdv A outer s H Ex) (fun cls d _ H => Ex cls d H) := takes_of rfl rfl rfl rfl
  exact s_one (s_ret (e_callTy cb_tuple rfl E.tuple (by first | rfl | kernel_rfl) (r_one (e_look (e_lc (own := [((PySem.Str.ofString "cell"), 1), ((PySem.Str.ofString "rule"), 2)]) rfl hN (i_seq (e_rd 0 (pv 0))) (show BlkOk [(PySem.Str.ofString "folk"), (PySem.Str.ofString "cell"), (PySem.Str.ofString "rule")] (defScope x_seats_of) _ _ from ⟨rfl, by decide +kernel, by decide +kernel, by decide +kernel, by decide +kernel⟩) (fun _ _ _ _ _ => g_tup rfl (gs_cons (g_name (i := 1) hN rfl (.inl rfl) (show 1 ∉ others 3 [1, 2] from by decide)) (gs_cons (g_name (i := 2) hN rfl (.inl rfl) (show 2 ∉ others 3 [1, 2] from by decide)) (gs_nil)))) (fun _ _ _ _ _ => ts_nil) (fun _ _ _ _ _ => e_rd 1 (pv 1)))))))
theorem sc_course : FnScope [(PySem.Str.ofString "floor"), (PySem.Str.ofString "sun"), (PySem.Str.ofString "folk"), (PySem.Str.ofString "found"), (PySem.Str.ofString "row")] [(PySem.Str.ofString "floor"), (PySem.Str.ofString "sun"), (PySem.Str.ofString "folk")] (defScope x_course) := ⟨rfl, rfl, rfl, by decide +kernel, rfl, by decide +kernel, by decide +kernel⟩
theorem ok_course (E : Env P w K mg ca) (O_Course_init : OwnI P w K mg base ca 0 6 (PySem.Str.ofString "Course") [(PySem.Str.ofString "self"), (PySem.Str.ofString "floor"), (PySem.Str.ofString "sun"), (PySem.Str.ofString "folk")] [false, false, false] m_Course_init) (O_need_all : Own P w K mg base ca 5 (PySem.Str.ofString "need_all") [(PySem.Str.ofString "floor"), (PySem.Str.ofString "sun"), (PySem.Str.ofString "folk")] [false, false, false] m_need_all) (O_seats_of : Own P w K mg base ca 1 (PySem.Str.ofString "seats_of") [(PySem.Str.ofString "folk")] [false] m_seats_of) {f : Addr} {fd : FuncData} (F : FnQ K (PySem.Str.ofString "course") (PySem.Str.ofString "course") x_course f fd) : FnOk P w K mg base (L2.CX P w) 8 f fd [(PySem.Str.ofString "floor"), (PySem.Str.ofString "sun"), (PySem.Str.ofString "folk")] (spOf ⟨P, w, K, ca⟩ [false, false, false] m_course) := by
  refine d_okD F sc_course rfl (by decide) fun cdv A outer s H Ex hr => ?_
  have hu : (cxOf (L2.CX P w) P w K mg base [(PySem.Str.ofString "floor"), (PySem.Str.ofString "sun"), (PySem.Str.ofString "folk"), (PySem.Str.ofString "found"), (PySem.Str.ofString "row")] (PySem.Str.ofString "course") (defScope x_course) f cdv A outer s H Ex).A.units + 65 < cLine := hu_room hr
  have hN := sc_course.nd
  have tk : Takes (cxOf (L2.CX P w) P w K mg base [(PySem.Str.ofString "floor"), (PySem.Str.ofString "sun"), (PySem.Str.ofString "folk"), (PySem.Str.ofString "found"), (PySem.Str.ofString "row")] (PySem.Str.ofString "course") (defScope x_course) f cdv A outer s H Ex) (fun cls d _ H => Ex cls d H) := takes_of rfl rfl rfl rfl
  exact s_cons (s_expr (e_own O_need_all hr (by decide) tk rfl (m_cons (e_rd 0 (pv 0)) (m_cons (e_rd 1 (pv 1)) (m_cons (e_rd 2 (pv 2)) (m_nil))))))
    (s_cons (s_set (i := 3) hN rfl (.inl rfl) (by decide) (e_frz (e_ownI O_Course_init hr (by decide) tk rfl (len_cons (len_cons (len_cons (len_nil)))) (a_cons (e_rd 0 (pv 0)) (a_cons (e_rd 1 (pv 1)) (a_cons (e_rd 2 (pv 2)) (a_nil)))))))
    (s_one (s_ret (e_tup (a_cons (e_fld (C := 0) (e_pk 3 (pv 3)) E.cls0 E.na_tail) (a_cons (e_fld (C := 0) (e_pk 3 (pv 3)) E.cls0 E.na_turn) (a_cons (e_lc (own := [((PySem.Str.ofString "row"), 4)]) rfl hN (i_seq (e_fld (C := 0) (e_pk 3 (pv 3)) E.cls0 E.na_rows)) (show BlkOk [(PySem.Str.ofString "floor"), (PySem.Str.ofString "sun"), (PySem.Str.ofString "folk"), (PySem.Str.ofString "found"), (PySem.Str.ofString "row")] (defScope x_course) _ _ from ⟨rfl, by decide +kernel, by decide +kernel, by decide +kernel, by decide +kernel⟩) (fun _ _ _ _ _ => g_name (i := 4) hN rfl (.inl rfl) (show 4 ∉ others 5 [4] from by decide)) (fun _ _ _ _ _ => ts_nil) (fun _ _ _ _ _ => e_own O_seats_of hr (by decide) L2.takes0 rfl (m_cons (e_rd 4 (pv 4)) (m_nil)))) (a_nil))))))))
theorem sc_paper : FnScope [(PySem.Str.ofString "floor"), (PySem.Str.ofString "sun"), (PySem.Str.ofString "folk"), (PySem.Str.ofString "first"), (PySem.Str.ofString "found"), (PySem.Str.ofString "at"), (PySem.Str.ofString "row")] [(PySem.Str.ofString "floor"), (PySem.Str.ofString "sun"), (PySem.Str.ofString "folk")] (defScope x_paper) := ⟨rfl, rfl, rfl, by decide +kernel, rfl, by decide +kernel, by decide +kernel⟩
theorem ok_paper (E : Env P w K mg ca) (O_Course_init : OwnI P w K mg base ca 0 6 (PySem.Str.ofString "Course") [(PySem.Str.ofString "self"), (PySem.Str.ofString "floor"), (PySem.Str.ofString "sun"), (PySem.Str.ofString "folk")] [false, false, false] m_Course_init) (O_first_in_sun : Own P w K mg base ca 8 (PySem.Str.ofString "first_in_sun") [(PySem.Str.ofString "floor"), (PySem.Str.ofString "sun"), (PySem.Str.ofString "folk")] [false, false, false] m_first_in_sun) (O_need_all : Own P w K mg base ca 5 (PySem.Str.ofString "need_all") [(PySem.Str.ofString "floor"), (PySem.Str.ofString "sun"), (PySem.Str.ofString "folk")] [false, false, false] m_need_all) (O_seats_of : Own P w K mg base ca 1 (PySem.Str.ofString "seats_of") [(PySem.Str.ofString "folk")] [false] m_seats_of) (X_InSun : OwnX P w K mg base ca 10 (PySem.Str.ofString "InSun") [(PySem.Str.ofString "beat")]) {f : Addr} {fd : FuncData} (F : FnQ K (PySem.Str.ofString "paper") (PySem.Str.ofString "paper") x_paper f fd) : FnOk P w K mg base (L2.CX P w) 9 f fd [(PySem.Str.ofString "floor"), (PySem.Str.ofString "sun"), (PySem.Str.ofString "folk")] (spOf ⟨P, w, K, ca⟩ [false, false, false] m_paper) := by
  refine d_okD F sc_paper rfl (by decide) fun cdv A outer s H Ex hr => ?_
  have hu : (cxOf (L2.CX P w) P w K mg base [(PySem.Str.ofString "floor"), (PySem.Str.ofString "sun"), (PySem.Str.ofString "folk"), (PySem.Str.ofString "first"), (PySem.Str.ofString "found"), (PySem.Str.ofString "at"), (PySem.Str.ofString "row")] (PySem.Str.ofString "paper") (defScope x_paper) f cdv A outer s H Ex).A.units + 65 < cLine := hu_room hr
  have hN := sc_paper.nd
  have tk : Takes (cxOf (L2.CX P w) P w K mg base [(PySem.Str.ofString "floor"), (PySem.Str.ofString "sun"), (PySem.Str.ofString "folk"), (PySem.Str.ofString "first"), (PySem.Str.ofString "found"), (PySem.Str.ofString "at"), (PySem.Str.ofString "row")] (PySem.Str.ofString "paper") (defScope x_paper) f cdv A outer s H Ex) (fun cls d _ H => Ex cls d H) := takes_of rfl rfl rfl rfl
  exact s_cons (s_expr (e_own O_need_all hr (by decide) tk rfl (m_cons (e_rd 0 (pv 0)) (m_cons (e_rd 1 (pv 1)) (m_cons (e_rd 2 (pv 2)) (m_nil))))))
    (s_cons (s_set (i := 3) hN rfl (.inl rfl) (by decide) (e_own O_first_in_sun hr (by decide) tk rfl (m_cons (e_rd 0 (pv 0)) (m_cons (e_rd 1 (pv 1)) (m_cons (e_rd 2 (pv 2)) (m_nil))))))
    (s_cons (s_if (t_cmp (op_isNC) (pr_pt 3) (pv 3) (e_look (e_c pe_non fun _ => repN)) (nomark _)) (s_one (s_raiseX X_InSun rfl hr (by decide) tk (a_cons (e_rd 3 (pv 3)) (a_nil)))) (s_nil))
    (s_cons (s_set (i := 4) hN rfl (.inl rfl) (by decide) (e_frz (e_ownI O_Course_init hr (by decide) tk rfl (len_cons (len_cons (len_cons (len_nil)))) (a_cons (e_rd 0 (pv 0)) (a_cons (e_rd 1 (pv 1)) (a_cons (e_rd 2 (pv 2)) (a_nil)))))))
    (s_one (s_ret (e_callB (cb_sorted rfl hu) rfl E.sorted (by first | rfl | kernel_rfl) (r_one (e_look (e_lc (own := [((PySem.Str.ofString "at"), 5), ((PySem.Str.ofString "row"), 6)]) rfl hN (i_enum rfl E.enumerate (e_fld (C := 0) (e_pk 4 (pv 4)) E.cls0 E.na_rows)) (show BlkOk [(PySem.Str.ofString "floor"), (PySem.Str.ofString "sun"), (PySem.Str.ofString "folk"), (PySem.Str.ofString "first"), (PySem.Str.ofString "found"), (PySem.Str.ofString "at"), (PySem.Str.ofString "row")] (defScope x_paper) _ _ from ⟨rfl, by decide +kernel, by decide +kernel, by decide +kernel, by decide +kernel⟩) (fun _ _ _ _ _ => g_tup rfl (gs_cons (g_name (i := 5) hN rfl (.inl rfl) (show 5 ∉ others 7 [5, 6] from by decide)) (gs_cons (g_name (i := 6) hN rfl (.inl rfl) (show 6 ∉ others 7 [5, 6] from by decide)) (gs_nil)))) (fun _ _ _ _ _ => ts_nil) (fun _ _ _ _ _ => e_tup (a_cons (e_bin op_modG (pr_pt 5) (pv 5) (e_look (e_callB cb_len rfl E.len (by first | rfl | kernel_rfl) (r_one (e_pk 1 (pv 1)))))) (a_cons (e_own O_seats_of hr (by decide) L2.takes0 rfl (m_cons (e_rd 6 (pv 6)) (m_nil))) (a_nil)))))))))))))
theorem sc_parted : FnScope [(PySem.Str.ofString "floor"), (PySem.Str.ofString "other"), (PySem.Str.ofString "sun"), (PySem.Str.ofString "beat"), (PySem.Str.ofString "sign"), (PySem.Str.ofString "one"), (PySem.Str.ofString "two"), (PySem.Str.ofString "some"), (PySem.Str.ofString "cell")] [(PySem.Str.ofString "floor"), (PySem.Str.ofString "other"), (PySem.Str.ofString "sun")] (defScope x_parted) := ⟨rfl, rfl, rfl, by decide +kernel, rfl, by decide +kernel, by decide +kernel⟩
theorem ok_parted (E : Env P w K mg ca) (O_all_cells : Own P w K mg base ca 1 (PySem.Str.ofString "all_cells") [(PySem.Str.ofString "floor")] [false] m_all_cells) (O_need_floor : Own P w K mg base ca 4 (PySem.Str.ofString "need_floor") [(PySem.Str.ofString "floor")] [false] m_need_floor) (O_need_sun : Own P w K mg base ca 1 (PySem.Str.ofString "need_sun") [(PySem.Str.ofString "sun")] [false] m_need_sun) (O_shaded : Own P w K mg base ca 2 (PySem.Str.ofString "shaded") [(PySem.Str.ofString "floor"), (PySem.Str.ofString "sign")] [false, false] m_shaded) {f : Addr} {fd : FuncData} (F : FnQ K (PySem.Str.ofString "parted") (PySem.Str.ofString "parted") x_parted f fd) : FnOk P w K mg base (L2.CX P w) 5 f fd [(PySem.Str.ofString "floor"), (PySem.Str.ofString "other"), (PySem.Str.ofString "sun")] (spOf ⟨P, w, K, ca⟩ [false, false, false] m_parted) := by
  refine d_okD F sc_parted rfl (by decide) fun cdv A outer s H Ex hr => ?_
  have hu : (cxOf (L2.CX P w) P w K mg base [(PySem.Str.ofString "floor"), (PySem.Str.ofString "other"), (PySem.Str.ofString "sun"), (PySem.Str.ofString "beat"), (PySem.Str.ofString "sign"), (PySem.Str.ofString "one"), (PySem.Str.ofString "two"), (PySem.Str.ofString "some"), (PySem.Str.ofString "cell")] (PySem.Str.ofString "parted") (defScope x_parted) f cdv A outer s H Ex).A.units + 65 < cLine := hu_room hr
  have hN := sc_parted.nd
  have tk : Takes (cxOf (L2.CX P w) P w K mg base [(PySem.Str.ofString "floor"), (PySem.Str.ofString "other"), (PySem.Str.ofString "sun"), (PySem.Str.ofString "beat"), (PySem.Str.ofString "sign"), (PySem.Str.ofString "one"), (PySem.Str.ofString "two"), (PySem.Str.ofString "some"), (PySem.Str.ofString "cell")] (PySem.Str.ofString "parted") (defScope x_parted) f cdv A outer s H Ex) (fun cls d _ H => Ex cls d H) := takes_of rfl rfl rfl rfl
  exact s_cons (s_expr (e_own O_need_floor hr (by decide) tk rfl (m_cons (e_rd 0 (pv 0)) (m_nil))))
    (s_cons (s_expr (e_own O_need_floor hr (by decide) tk rfl (m_cons (e_rd 1 (pv 1)) (m_nil))))
    (s_cons (s_expr (e_own O_need_sun hr (by decide) tk rfl (m_cons (e_rd 2 (pv 2)) (m_nil))))
    (s_cons (s_for (passes_of rfl) rfl (i_enum rfl E.enumerate (e_rd 2 (pv 2))) (g_tup rfl (gs_cons (g_name (i := 3) hN rfl (.inl rfl) (by decide)) (gs_cons (g_name (i := 4) hN rfl (.inl rfl) (by decide)) (gs_nil)))) (s_cons (s_tup2 rfl hN (i := 5) (j := 6) rfl rfl (by decide) (by decide) (.inr rfl) (.inr rfl) (a_cons (e_own O_shaded hr (by decide) tk rfl (m_cons (e_rd 0 (pv 0)) (m_cons (e_rd 4 (pv 4)) (m_nil)))) (a_cons (e_own O_shaded hr (by decide) tk rfl (m_cons (e_rd 1 (pv 1)) (m_cons (e_rd 4 (pv 4)) (m_nil)))) (a_nil))))
    (s_cons (s_setLc (own := [((PySem.Str.ofString "cell"), 8)]) (i := 7) rfl hN rfl rfl (by decide) rfl (i_seq (e_bin op_addG pr_tt (e_own O_all_cells hr (by decide) tk rfl (m_cons (e_rd 0 (pv 0)) (m_nil))) (e_look (e_own O_all_cells hr (by decide) tk rfl (m_cons (e_rd 1 (pv 1)) (m_nil)))))) (show BlkOk [(PySem.Str.ofString "floor"), (PySem.Str.ofString "other"), (PySem.Str.ofString "sun"), (PySem.Str.ofString "beat"), (PySem.Str.ofString "sign"), (PySem.Str.ofString "one"), (PySem.Str.ofString "two"), (PySem.Str.ofString "some"), (PySem.Str.ofString "cell")] (defScope x_parted) _ _ from ⟨rfl, by decide +kernel, by decide +kernel, by decide +kernel, by decide +kernel⟩) (fun _ _ _ _ _ => g_name (i := 8) hN rfl (.inl rfl) (show 8 ∉ others 9 [8] from by decide)) (fun _ _ _ _ _ => ts_one (t_cmp (op_neC (Nat.lt_of_succ_lt hu)) pr_tt (e_cmp ((op_inE hu)) (pr_pt 8) (pv 8) (e_pk 5 (pv 5)) (by with_unfolding_all rfl)) (e_look (e_cmp ((op_inE hu)) (pr_pt 8) (pv 8) (e_pk 6 (pv 6)) (by with_unfolding_all rfl))) (nomark _))) (fun _ _ _ _ _ => e_rd 8 (pv 8)))
    (s_one (s_if (t_cmp (op_neC (Nat.lt_of_succ_lt hu)) (pr_pt 7) (pv 7) (e_look (e_lst (a_nil))) (nomark _)) (s_one (s_ret (e_tup (a_cons (e_rd 3 (pv 3)) (a_cons (e_callB (cb_min rfl hu) rfl E.min (by first | rfl | kernel_rfl) (r_one (e_pk 7 (pv 7)))) (a_nil)))))) (s_nil))))))
    (s_one (s_ret (e_c pe_non fun _ => repN))))))
theorem sc_free_cells : FnScope [(PySem.Str.ofString "floor"), (PySem.Str.ofString "posts"), (PySem.Str.ofString "post"), (PySem.Str.ofString "cell")] [(PySem.Str.ofString "floor")] (defScope x_free_cells) := ⟨rfl, rfl, rfl, by decide +kernel, rfl, by decide +kernel, by decide +kernel⟩
theorem ok_free_cells (E : Env P w K mg ca) (O_all_cells : Own P w K mg base ca 1 (PySem.Str.ofString "all_cells") [(PySem.Str.ofString "floor")] [false] m_all_cells) {f : Addr} {fd : FuncData} (F : FnQ K (PySem.Str.ofString "free_cells") (PySem.Str.ofString "free_cells") x_free_cells f fd) : FnOk P w K mg base (L2.CX P w) 2 f fd [(PySem.Str.ofString "floor")] (spOf ⟨P, w, K, ca⟩ [false] m_free_cells) := by
  refine d_okD F sc_free_cells rfl (by decide) fun cdv A outer s H Ex hr => ?_
  have hu : (cxOf (L2.CX P w) P w K mg base [(PySem.Str.ofString "floor"), (PySem.Str.ofString "posts"), (PySem.Str.ofString "post"), (PySem.Str.ofString "cell")] (PySem.Str.ofString "free_cells") (defScope x_free_cells) f cdv A outer s H Ex).A.units + 65 < cLine := hu_room hr
  have hN := sc_free_cells.nd
  have tk : Takes (cxOf (L2.CX P w) P w K mg base [(PySem.Str.ofString "floor"), (PySem.Str.ofString "posts"), (PySem.Str.ofString "post"), (PySem.Str.ofString "cell")] (PySem.Str.ofString "free_cells") (defScope x_free_cells) f cdv A outer s H Ex) (fun cls d _ H => Ex cls d H) := takes_of rfl rfl rfl rfl
  exact s_cons (s_set (i := 1) hN rfl (.inr rfl) (by decide) (e_lc (own := [((PySem.Str.ofString "post"), 2)]) rfl hN (i_seq (e_ix hu (pr_pt 0) (pv 0) (e_look (e_c pe_int fun _ => repI)))) (show BlkOk [(PySem.Str.ofString "floor"), (PySem.Str.ofString "posts"), (PySem.Str.ofString "post"), (PySem.Str.ofString "cell")] (defScope x_free_cells) _ _ from ⟨rfl, by decide +kernel, by decide +kernel, by decide +kernel, by decide +kernel⟩) (fun _ _ _ _ _ => g_name (i := 2) hN rfl (.inl rfl) (show 2 ∉ others 4 [2] from by decide)) (fun _ _ _ _ _ => ts_nil) (fun _ _ _ _ _ => e_sliP 2 (pv 2) p_none (p_some (e_look (e_c pe_int fun _ => repI))))))
    (s_one (s_ret (e_lc (own := [((PySem.Str.ofString "cell"), 3)]) rfl hN (i_seq (e_own O_all_cells hr (by decide) tk rfl (m_cons (e_rd 0 (pv 0)) (m_nil)))) (show BlkOk [(PySem.Str.ofString "floor"), (PySem.Str.ofString "posts"), (PySem.Str.ofString "post"), (PySem.Str.ofString "cell")] (defScope x_free_cells) _ _ from ⟨rfl, by decide +kernel, by decide +kernel, by decide +kernel, by decide +kernel⟩) (fun _ _ _ _ _ => g_name (i := 3) hN rfl (.inl rfl) (show 3 ∉ others 4 [3] from by decide)) (fun _ _ _ _ _ => ts_one (t_cmp ((op_ninE hu)) (pr_pt 3) (pv 3) (e_pk 1 (pv 1)) (by with_unfolding_all rfl))) (fun _ _ _ _ _ => e_rd 3 (pv 3)))))
theorem sc_need_rule : FnScope [(PySem.Str.ofString "rule")] [(PySem.Str.ofString "rule")] (defScope x_need_rule) := ⟨rfl, rfl, rfl, by decide +kernel, rfl, by decide +kernel, by decide +kernel⟩
theorem ok_need_rule (E : Env P w K mg ca)  {f : Addr} {fd : FuncData} (F : FnQ K (PySem.Str.ofString "need_rule") (PySem.Str.ofString "need_rule") x_need_rule f fd) : FnOk P w K mg base (L2.CX P w) 1 f fd [(PySem.Str.ofString "rule")] (spOf ⟨P, w, K, ca⟩ [false] m_need_rule) := by
  refine d_okD F sc_need_rule rfl (by decide) fun cdv A outer s H Ex hr => ?_
  have hu : (cxOf (L2.CX P w) P w K mg base [(PySem.Str.ofString "rule")] (PySem.Str.ofString "need_rule") (defScope x_need_rule) f cdv A outer s H Ex).A.units + 65 < cLine := hu_room hr
  have hN := sc_need_rule.nd
  have tk : Takes (cxOf (L2.CX P w) P w K mg base [(PySem.Str.ofString "rule")] (PySem.Str.ofString "need_rule") (defScope x_need_rule) f cdv A outer s H Ex) (fun cls d _ H => Ex cls d H) := takes_of rfl rfl rfl rfl
  exact s_one (s_if (PW.pt (t_or (t_not (t_val (e_look (e_callB cb_isi rfl E.isinstance (by first | rfl | kernel_rfl) (r_two (pr_pt 0) (pv 0) (e_look (e_gT E.str (by first | rfl | kernel_rfl)))))))) (pw_or1 (t_cmp ((op_ninE hu)) (pr_pt 0) (pv 0) (e_look (e_gD E.RULES)) (by with_unfolding_all rfl))))) (s_one (s_never)) (s_nil))
theorem sc_parting : FnScope [(PySem.Str.ofString "floor"), (PySem.Str.ofString "sun"), (PySem.Str.ofString "one"), (PySem.Str.ofString "other"), (PySem.Str.ofString "best"), (PySem.Str.ofString "cell"), (PySem.Str.ofString "first"), (PySem.Str.ofString "second"), (PySem.Str.ofString "most"), (PySem.Str.ofString "many"), (PySem.Str.ofString "at")] [(PySem.Str.ofString "floor"), (PySem.Str.ofString "sun"), (PySem.Str.ofString "one"), (PySem.Str.ofString "other")] (defScope x_parting) := ⟨rfl, rfl, rfl, by decide +kernel, rfl, by decide +kernel, by decide +kernel⟩
theorem ok_parting (E : Env P w K mg ca) (O_Course_init : OwnI P w K mg base ca 0 6 (PySem.Str.ofString "Course") [(PySem.Str.ofString "self"), (PySem.Str.ofString "floor"), (PySem.Str.ofString "sun"), (PySem.Str.ofString "folk")] [false, false, false] m_Course_init) (O_Course_at : OwnM P w K mg base ca 0 1 (PySem.Str.ofString "at") [(PySem.Str.ofString "self"), (PySem.Str.ofString "many")] [false, false] m_Course_at) (O_free_cells : Own P w K mg base ca 2 (PySem.Str.ofString "free_cells") [(PySem.Str.ofString "floor")] [false] m_free_cells) (O_need_floor : Own P w K mg base ca 4 (PySem.Str.ofString "need_floor") [(PySem.Str.ofString "floor")] [false] m_need_floor) (O_need_rule : Own P w K mg base ca 1 (PySem.Str.ofString "need_rule") [(PySem.Str.ofString "rule")] [false] m_need_rule) (O_need_sun : Own P w K mg base ca 1 (PySem.Str.ofString "need_sun") [(PySem.Str.ofString "sun")] [false] m_need_sun) (O_seats_of : Own P w K mg base ca 1 (PySem.Str.ofString "seats_of") [(PySem.Str.ofString "folk")] [false] m_seats_of) {f : Addr} {fd : FuncData} (F : FnQ K (PySem.Str.ofString "parting") (PySem.Str.ofString "parting") x_parting f fd) : FnOk P w K mg base (L2.CX P w) 8 f fd [(PySem.Str.ofString "floor"), (PySem.Str.ofString "sun"), (PySem.Str.ofString "one"), (PySem.Str.ofString "other")] (spOf ⟨P, w, K, ca⟩ [false, false, false, false] m_parting) := by
  refine d_okD F sc_parting rfl (by decide) fun cdv A outer s H Ex hr => ?_
  have hu : (cxOf (L2.CX P w) P w K mg base [(PySem.Str.ofString "floor"), (PySem.Str.ofString "sun"), (PySem.Str.ofString "one"), (PySem.Str.ofString "other"), (PySem.Str.ofString "best"), (PySem.Str.ofString "cell"), (PySem.Str.ofString "first"), (PySem.Str.ofString "second"), (PySem.Str.ofString "most"), (PySem.Str.ofString "many"), (PySem.Str.ofString "at")] (PySem.Str.ofString "parting") (defScope x_parting) f cdv A outer s H Ex).A.units + 65 < cLine := hu_room hr
  have hN := sc_parting.nd
  have tk : Takes (cxOf (L2.CX P w) P w K mg base [(PySem.Str.ofString "floor"), (PySem.Str.ofString "sun"), (PySem.Str.ofString "one"), (PySem.Str.ofString "other"), (PySem.Str.ofString "best"), (PySem.Str.ofString "cell"), (PySem.Str.ofString "first"), (PySem.Str.ofString "second"), (PySem.Str.ofString "most"), (PySem.Str.ofString "many"), (PySem.Str.ofString "at")] (PySem.Str.ofString "parting") (defScope x_parting) f cdv A outer s H Ex) (fun cls d _ H => Ex cls d H) := takes_of rfl rfl rfl rfl
  exact s_cons (s_expr (e_own O_need_floor hr (by decide) tk rfl (m_cons (e_rd 0 (pv 0)) (m_nil))))
    (s_cons (s_expr (e_own O_need_sun hr (by decide) tk rfl (m_cons (e_rd 1 (pv 1)) (m_nil))))
    (s_cons (s_expr (e_own O_need_rule hr (by decide) tk rfl (m_cons (e_rd 2 (pv 2)) (m_nil))))
    (s_cons (s_expr (e_own O_need_rule hr (by decide) tk rfl (m_cons (e_rd 3 (pv 3)) (m_nil))))
    (s_cons (s_set (i := 4) hN rfl (.inl rfl) (by decide) (e_c pe_non fun _ => repN))
    (s_cons (s_for (passes_of rfl) rfl (i_seq (e_own O_free_cells hr (by decide) tk rfl (m_cons (e_rd 0 (pv 0)) (m_nil)))) (g_name (i := 5) hN rfl (.inl rfl) (by decide)) (s_cons (s_tup2 rfl hN (i := 6) (j := 7) rfl rfl (by decide) (by decide) (.inr rfl) (.inr rfl) (a_cons (e_frz (e_ownI O_Course_init hr (by decide) tk rfl (len_cons (len_cons (len_cons (len_nil)))) (a_cons (e_rd 0 (pv 0)) (a_cons (e_rd 1 (pv 1)) (a_cons (e_tup (a_cons (e_tup (a_cons (e_rd 5 (pv 5)) (a_cons (e_rd 2 (pv 2)) (a_nil)))) (a_nil))) (a_nil)))))) (a_cons (e_frz (e_ownI O_Course_init hr (by decide) tk rfl (len_cons (len_cons (len_cons (len_nil)))) (a_cons (e_rd 0 (pv 0)) (a_cons (e_rd 1 (pv 1)) (a_cons (e_tup (a_cons (e_tup (a_cons (e_rd 5 (pv 5)) (a_cons (e_rd 3 (pv 3)) (a_nil)))) (a_nil))) (a_nil)))))) (a_nil))))
    (s_cons (s_set (i := 8) hN rfl (.inl rfl) (by decide) (e_bin op_addG pr_tt (e_callB (cb_max2 rfl) rfl E.max (by first | rfl | kernel_rfl) (r_two pr_tt (e_fld (C := 0) (e_pk 6 (pv 6)) E.cls0 E.na_tail) (e_look (e_fld (C := 0) (e_pk 7 (pv 7)) E.cls0 E.na_tail)))) (e_look (e_bin op_mulG pr_tt (e_fld (C := 0) (e_pk 6 (pv 6)) E.cls0 E.na_turn) (e_look (e_fld (C := 0) (e_pk 7 (pv 7)) E.cls0 E.na_turn))))))
    (s_cons (s_set (i := 9) hN rfl (.inl rfl) (by decide) (e_sli (e_lc (own := [((PySem.Str.ofString "at"), 10)]) rfl hN (i_rng1 rfl E.range (r_one (e_look (e_bin op_addG (pr_pt 8) (pv 8) (e_look (e_c pe_int fun _ => repI)))))) (show BlkOk [(PySem.Str.ofString "floor"), (PySem.Str.ofString "sun"), (PySem.Str.ofString "one"), (PySem.Str.ofString "other"), (PySem.Str.ofString "best"), (PySem.Str.ofString "cell"), (PySem.Str.ofString "first"), (PySem.Str.ofString "second"), (PySem.Str.ofString "most"), (PySem.Str.ofString "many"), (PySem.Str.ofString "at")] (defScope x_parting) _ _ from ⟨rfl, by decide +kernel, by decide +kernel, by decide +kernel, by decide +kernel⟩) (fun _ _ _ _ _ => g_name (i := 10) hN rfl (.inl rfl) (show 10 ∉ others 11 [10] from by decide)) (fun _ _ _ _ _ => ts_one (t_cmp (op_neC (Nat.lt_of_succ_lt hu)) pr_tt (e_own O_seats_of hr (by decide) L2.takes0 rfl (m_cons (e_ownM (C := 0) O_Course_at hr (by decide) L2.takes0 rfl (e_rd 6 (pv 6)) (m_cons (e_rd 10 (pv 10)) (m_nil))) (m_nil))) (e_look (e_own O_seats_of hr (by decide) L2.takes0 rfl (m_cons (e_ownM (C := 0) O_Course_at hr (by decide) L2.takes0 rfl (e_rd 7 (pv 7)) (m_cons (e_rd 10 (pv 10)) (m_nil))) (m_nil)))) (nomark _))) (fun _ _ _ _ _ => e_rd 10 (pv 10))) p_none (p_some (e_look (e_c pe_int fun _ => repI)))))
    (s_one (s_if (PW.pt (t_and (t_cmp (op_neC (Nat.lt_of_succ_lt hu)) (pr_pt 9) (pv 9) (e_look (e_lst (a_nil))) (nomark _)) (pw_and1 (PW.pt (t_or (t_cmp (op_isC) (pr_pt 4) (pv 4) (e_look (e_c pe_non fun _ => repN)) (nomark _)) (pw_or1 (t_cmp (op_ltC) pr_tt (e_ix hu (pr_pt 9) (pv 9) (e_look (e_c pe_int fun _ => repI))) (e_look (e_ix hu (pr_pt 4) (pv 4) (e_look (e_c pe_int fun _ => repI)))) (nomark _)))))))) (s_one (s_set (i := 4) hN rfl (.inl rfl) (by decide) (e_tup (a_cons (e_ix hu (pr_pt 9) (pv 9) (e_look (e_c pe_int fun _ => repI))) (a_cons (e_rd 5 (pv 5)) (a_nil)))))) (s_nil)))))))
    (s_one (s_ret (e_rd 4 (pv 4)))))))))
theorem sc_shade : FnScope [(PySem.Str.ofString "floor"), (PySem.Str.ofString "sun"), (PySem.Str.ofString "beat")] [(PySem.Str.ofString "floor"), (PySem.Str.ofString "sun"), (PySem.Str.ofString "beat")] (defScope x_shade) := ⟨rfl, rfl, rfl, by decide +kernel, rfl, by decide +kernel, by decide +kernel⟩
theorem ok_shade (E : Env P w K mg ca) (O_need_count : Own P w K mg base ca 2 (PySem.Str.ofString "need_count") [(PySem.Str.ofString "number"), (PySem.Str.ofString "low"), (PySem.Str.ofString "high")] [false, false, false] m_need_count) (O_need_floor : Own P w K mg base ca 4 (PySem.Str.ofString "need_floor") [(PySem.Str.ofString "floor")] [false] m_need_floor) (O_need_sun : Own P w K mg base ca 1 (PySem.Str.ofString "need_sun") [(PySem.Str.ofString "sun")] [false] m_need_sun) (O_shaded : Own P w K mg base ca 2 (PySem.Str.ofString "shaded") [(PySem.Str.ofString "floor"), (PySem.Str.ofString "sign")] [false, false] m_shaded) {f : Addr} {fd : FuncData} (F : FnQ K (PySem.Str.ofString "shade") (PySem.Str.ofString "shade") x_shade f fd) : FnOk P w K mg base (L2.CX P w) 5 f fd [(PySem.Str.ofString "floor"), (PySem.Str.ofString "sun"), (PySem.Str.ofString "beat")] (spOf ⟨P, w, K, ca⟩ [false, false, false] m_shade) := by
  refine d_okD F sc_shade rfl (by decide) fun cdv A outer s H Ex hr => ?_
  have hu : (cxOf (L2.CX P w) P w K mg base [(PySem.Str.ofString "floor"), (PySem.Str.ofString "sun"), (PySem.Str.ofString "beat")] (PySem.Str.ofString "shade") (defScope x_shade) f cdv A outer s H Ex).A.units + 65 < cLine := hu_room hr
  have hN := sc_shade.nd
  have tk : Takes (cxOf (L2.CX P w) P w K mg base [(PySem.Str.ofString "floor"), (PySem.Str.ofString "sun"), (PySem.Str.ofString "beat")] (PySem.Str.ofString "shade") (defScope x_shade) f cdv A outer s H Ex) (fun cls d _ H => Ex cls d H) := takes_of rfl rfl rfl rfl
  exact s_cons (s_expr (e_own O_need_floor hr (by decide) tk rfl (m_cons (e_rd 0 (pv 0)) (m_nil))))
    (s_cons (s_expr (e_own O_need_sun hr (by decide) tk rfl (m_cons (e_rd 1 (pv 1)) (m_nil))))
    (s_cons (s_expr (e_own O_need_count hr (by decide) tk rfl (m_cons (e_rd 2 (pv 2)) (m_cons (e_c pe_int fun _ => repI) (m_cons (e_bin op_powG pr_tt (e_c pe_int fun _ => repI) (e_look (e_c pe_int fun _ => repI))) (m_nil))))))
    (s_one (s_ret (e_callB (cb_sorted rfl hu) rfl E.sorted (by first | rfl | kernel_rfl) (r_one (e_look (e_own O_shaded hr (by decide) tk rfl (m_cons (e_rd 0 (pv 0)) (m_cons (e_ix hu (pr_pt 1) (pv 1) (e_look (e_bin op_modG (pr_pt 2) (pv 2) (e_look (e_callB cb_len rfl E.len (by first | rfl | kernel_rfl) (r_one (e_pk 1 (pv 1)))))))) (m_nil)))))))))))
theorem sc_need_paper : FnScope [(PySem.Str.ofString "floor"), (PySem.Str.ofString "sun"), (PySem.Str.ofString "folk"), (PySem.Str.ofString "told"), (PySem.Str.ofString "number"), (PySem.Str.ofString "part"), (PySem.Str.ofString "good"), (PySem.Str.ofString "cell")] [(PySem.Str.ofString "floor"), (PySem.Str.ofString "sun"), (PySem.Str.ofString "folk"), (PySem.Str.ofString "told")] (defScope x_need_paper) := ⟨rfl, rfl, rfl, by decide +kernel, rfl, by decide +kernel, by decide +kernel⟩
theorem ok_need_paper (E : Env P w K mg ca) (O_is_cell : Own P w K mg base ca 2 (PySem.Str.ofString "is_cell") [(PySem.Str.ofString "part"), (PySem.Str.ofString "floor")] [false, false] m_is_cell) (O_is_number : Own P w K mg base ca 1 (PySem.Str.ofString "is_number") [(PySem.Str.ofString "part"), (PySem.Str.ofString "low"), (PySem.Str.ofString "high")] [false, false, false] m_is_number) {f : Addr} {fd : FuncData} (F : FnQ K (PySem.Str.ofString "need_paper") (PySem.Str.ofString "need_paper") x_need_paper f fd) : FnOk P w K mg base (L2.CX P w) 3 f fd [(PySem.Str.ofString "floor"), (PySem.Str.ofString "sun"), (PySem.Str.ofString "folk"), (PySem.Str.ofString "told")] (spOf ⟨P, w, K, ca⟩ [false, false, false, false] m_need_paper) := by
  refine d_okD F sc_need_paper rfl (by decide) fun cdv A outer s H Ex hr => ?_
  have hu : (cxOf (L2.CX P w) P w K mg base [(PySem.Str.ofString "floor"), (PySem.Str.ofString "sun"), (PySem.Str.ofString "folk"), (PySem.Str.ofString "told"), (PySem.Str.ofString "number"), (PySem.Str.ofString "part"), (PySem.Str.ofString "good"), (PySem.Str.ofString "cell")] (PySem.Str.ofString "need_paper") (defScope x_need_paper) f cdv A outer s H Ex).A.units + 65 < cLine := hu_room hr
  have hN := sc_need_paper.nd
  have tk : Takes (cxOf (L2.CX P w) P w K mg base [(PySem.Str.ofString "floor"), (PySem.Str.ofString "sun"), (PySem.Str.ofString "folk"), (PySem.Str.ofString "told"), (PySem.Str.ofString "number"), (PySem.Str.ofString "part"), (PySem.Str.ofString "good"), (PySem.Str.ofString "cell")] (PySem.Str.ofString "need_paper") (defScope x_need_paper) f cdv A outer s H Ex) (fun cls d _ H => Ex cls d H) := takes_of rfl rfl rfl rfl
  exact s_cons (s_if (t_not (t_val (e_look (e_callB cb_isi rfl E.isinstance (by first | rfl | kernel_rfl) (r_two (pr_pt 3) (pv 3) (e_look (e_gT E.list (by first | rfl | kernel_rfl)))))))) (s_one (s_never)) (s_nil))
    (s_one (s_for (passes_of rfl) rfl (i_enum rfl E.enumerate (e_rd 3 (pv 3))) (g_tup rfl (gs_cons (g_name (i := 4) hN rfl (.inl rfl) (by decide)) (gs_cons (g_name (i := 5) hN rfl (.inl rfl) (by decide)) (gs_nil)))) (s_cons (s_set (i := 6) hN rfl (.inl rfl) (by decide) (e_and (e_asb (e_callB cb_isi rfl E.isinstance (by first | rfl | kernel_rfl) (r_two (pr_pt 5) (pv 5) (e_look (e_gT E.tuple (by first | rfl | kernel_rfl)))))) (e_and (e_cmp (op_eqC (Nat.lt_of_succ_lt hu)) pr_tt (e_callB cb_len rfl E.len (by first | rfl | kernel_rfl) (r_one (e_pk 5 (pv 5)))) (e_look (e_c pe_int fun _ => repI)) (nomark _)) (pe_one (e_asb (e_own O_is_number hr (by decide) tk rfl (m_cons (e_ix hu (pr_pt 5) (pv 5) (e_look (e_c pe_int fun _ => repI))) (m_cons (e_c pe_int fun _ => repI) (m_cons (e_bin op_subG pr_tt (e_callB cb_len rfl E.len (by first | rfl | kernel_rfl) (r_one (e_pk 1 (pv 1)))) (e_look (e_c pe_int fun _ => repI))) (m_nil))))))))))
    (s_cons (s_if (PW.pt (t_or (t_not (t_val (e_pk 6 (pv 6)))) (t_or (t_not (t_val (e_look (e_callB cb_isi rfl E.isinstance (by first | rfl | kernel_rfl) (r_two pr_tt (e_ix hu (pr_pt 5) (pv 5) (e_look (e_c pe_int fun _ => repI))) (e_look (e_gT E.tuple (by first | rfl | kernel_rfl)))))))) (pw_or1 (t_cmp (op_neC (Nat.lt_of_succ_lt hu)) pr_tt (e_callB cb_len rfl E.len (by first | rfl | kernel_rfl) (r_one (e_look (e_ix hu (pr_pt 5) (pv 5) (e_look (e_c pe_int fun _ => repI)))))) (e_look (e_callB cb_len rfl E.len (by first | rfl | kernel_rfl) (r_one (e_pk 2 (pv 2))))) (nomark _)))))) (s_one (s_never)) (s_nil))
    (s_one (s_if (t_not (t_val (e_look (e_callB (cb_all rfl) rfl E.all (by first | rfl | kernel_rfl) (r_one (e_look (e_lc (own := [((PySem.Str.ofString "cell"), 7)]) rfl hN (i_seq (e_ix hu (pr_pt 5) (pv 5) (e_look (e_c pe_int fun _ => repI)))) (show BlkOk [(PySem.Str.ofString "floor"), (PySem.Str.ofString "sun"), (PySem.Str.ofString "folk"), (PySem.Str.ofString "told"), (PySem.Str.ofString "number"), (PySem.Str.ofString "part"), (PySem.Str.ofString "good"), (PySem.Str.ofString "cell")] (defScope x_need_paper) _ _ from ⟨rfl, by decide +kernel, by decide +kernel, by decide +kernel, by decide +kernel⟩) (fun _ _ _ _ _ => g_name (i := 7) hN rfl (.inl rfl) (show 7 ∉ others 8 [7] from by decide)) (fun _ _ _ _ _ => ts_nil) (fun _ _ _ _ _ => e_own O_is_cell hr (by decide) L2.takes0 rfl (m_cons (e_rd 7 (pv 7)) (m_cons (e_rd 0 (pv 0)) (m_nil))))))))))) (s_one (s_never)) (s_nil)))))))
theorem sc_shows : FnScope [(PySem.Str.ofString "floor"), (PySem.Str.ofString "sun"), (PySem.Str.ofString "folk"), (PySem.Str.ofString "told"), (PySem.Str.ofString "known"), (PySem.Str.ofString "beat"), (PySem.Str.ofString "seats"), (PySem.Str.ofString "here"), (PySem.Str.ofString "later"), (PySem.Str.ofString "part"), (PySem.Str.ofString "cell"), (PySem.Str.ofString "first"), (PySem.Str.ofString "rule")] [(PySem.Str.ofString "floor"), (PySem.Str.ofString "sun"), (PySem.Str.ofString "folk"), (PySem.Str.ofString "told")] (defScope x_shows) := ⟨rfl, rfl, rfl, by decide +kernel, rfl, by decide +kernel, by decide +kernel⟩
theorem ok_shows (E : Env P w K mg ca) (O_moved : Own P w K mg base ca 5 (PySem.Str.ofString "moved") [(PySem.Str.ofString "floor"), (PySem.Str.ofString "sign"), (PySem.Str.ofString "folk")] [false, false, false] m_moved) (O_need_all : Own P w K mg base ca 5 (PySem.Str.ofString "need_all") [(PySem.Str.ofString "floor"), (PySem.Str.ofString "sun"), (PySem.Str.ofString "folk")] [false, false, false] m_need_all) (O_need_paper : Own P w K mg base ca 3 (PySem.Str.ofString "need_paper") [(PySem.Str.ofString "floor"), (PySem.Str.ofString "sun"), (PySem.Str.ofString "folk"), (PySem.Str.ofString "told")] [false, false, false, false] m_need_paper) (O_seats_of : Own P w K mg base ca 1 (PySem.Str.ofString "seats_of") [(PySem.Str.ofString "folk")] [false] m_seats_of) (O_suns_of : Own P w K mg base ca 3 (PySem.Str.ofString "suns_of") [(PySem.Str.ofString "floor"), (PySem.Str.ofString "sign"), (PySem.Str.ofString "folk")] [false, false, false] m_suns_of) {f : Addr} {fd : FuncData} (F : FnQ K (PySem.Str.ofString "shows") (PySem.Str.ofString "shows") x_shows f fd) : FnOk P w K mg base (L2.CX P w) 6 f fd [(PySem.Str.ofString "floor"), (PySem.Str.ofString "sun"), (PySem.Str.ofString "folk"), (PySem.Str.ofString "told")] (spOf ⟨P, w, K, ca⟩ [false, false, false, false] m_shows) := by
  refine d_okD F sc_shows rfl (by decide) fun cdv A outer s H Ex hr => ?_
  have hu : (cxOf (L2.CX P w) P w K mg base [(PySem.Str.ofString "floor"), (PySem.Str.ofString "sun"), (PySem.Str.ofString "folk"), (PySem.Str.ofString "told"), (PySem.Str.ofString "known"), (PySem.Str.ofString "beat"), (PySem.Str.ofString "seats"), (PySem.Str.ofString "here"), (PySem.Str.ofString "later"), (PySem.Str.ofString "part"), (PySem.Str.ofString "cell"), (PySem.Str.ofString "first"), (PySem.Str.ofString "rule")] (PySem.Str.ofString "shows") (defScope x_shows) f cdv A outer s H Ex).A.units + 65 < cLine := hu_room hr
  have hN := sc_shows.nd
  have tk : Takes (cxOf (L2.CX P w) P w K mg base [(PySem.Str.ofString "floor"), (PySem.Str.ofString "sun"), (PySem.Str.ofString "folk"), (PySem.Str.ofString "told"), (PySem.Str.ofString "known"), (PySem.Str.ofString "beat"), (PySem.Str.ofString "seats"), (PySem.Str.ofString "here"), (PySem.Str.ofString "later"), (PySem.Str.ofString "part"), (PySem.Str.ofString "cell"), (PySem.Str.ofString "first"), (PySem.Str.ofString "rule")] (PySem.Str.ofString "shows") (defScope x_shows) f cdv A outer s H Ex) (fun cls d _ H => Ex cls d H) := takes_of rfl rfl rfl rfl
  exact s_cons (s_expr (e_own O_need_all hr (by decide) tk rfl (m_cons (e_rd 0 (pv 0)) (m_cons (e_rd 1 (pv 1)) (m_cons (e_rd 2 (pv 2)) (m_nil))))))
    (s_cons (s_expr (e_own O_need_paper hr (by decide) tk rfl (m_cons (e_rd 0 (pv 0)) (m_cons (e_rd 1 (pv 1)) (m_cons (e_rd 2 (pv 2)) (m_cons (e_rd 3 (pv 3)) (m_nil)))))))
    (s_cons (s_setDc (own := [((PySem.Str.ofString "part"), 9)]) (i := 4) hu rfl hN rfl rfl (by decide) rfl (i_seq (e_rd 3 (pv 3))) (show BlkOk [(PySem.Str.ofString "floor"), (PySem.Str.ofString "sun"), (PySem.Str.ofString "folk"), (PySem.Str.ofString "told"), (PySem.Str.ofString "known"), (PySem.Str.ofString "beat"), (PySem.Str.ofString "seats"), (PySem.Str.ofString "here"), (PySem.Str.ofString "later"), (PySem.Str.ofString "part"), (PySem.Str.ofString "cell"), (PySem.Str.ofString "first"), (PySem.Str.ofString "rule")] (defScope x_shows) _ _ from ⟨rfl, by decide +kernel, by decide +kernel, by decide +kernel, by decide +kernel⟩) (fun _ _ _ _ _ => g_name (i := 9) hN rfl (.inl rfl) (show 9 ∉ others 13 [9] from by decide)) (fun _ _ _ _ _ => ts_nil) (fun _ _ _ _ _ => e_rd 9 (pv 9)) (fun _ _ _ _ _ => e_c pe_bl fun _ => repB))
    (s_cons (s_if (t_cmp ((op_ninE hu)) pr_tt (e_tup (a_cons (e_c pe_int fun _ => repI) (a_cons (e_own O_seats_of hr (by decide) tk rfl (m_cons (e_rd 2 (pv 2)) (m_nil))) (a_nil)))) (e_pk 4 (pv 4)) (by with_unfolding_all rfl)) (s_one (s_ret (e_c pe_bl fun _ => repB))) (s_nil))
    (s_cons (s_for (passes_of rfl) rfl (i_seq (e_rd 3 (pv 3))) (g_tup rfl (gs_cons (g_name (i := 5) hN rfl (.inl rfl) (by decide)) (gs_cons (g_name (i := 6) hN rfl (.inl rfl) (by decide)) (gs_nil)))) (s_cons (s_set (i := 7) hN rfl (.inl rfl) (by decide) (e_callTy cb_tuple rfl E.tuple (by first | rfl | kernel_rfl) (r_one (e_look (e_lc (own := [((PySem.Str.ofString "cell"), 10), ((PySem.Str.ofString "first"), 11), ((PySem.Str.ofString "rule"), 12)]) rfl hN (i_zip rfl E.zip (a_cons (e_rd 6 (pv 6)) (a_cons (e_rd 2 (pv 2)) (a_nil)))) (show BlkOk [(PySem.Str.ofString "floor"), (PySem.Str.ofString "sun"), (PySem.Str.ofString "folk"), (PySem.Str.ofString "told"), (PySem.Str.ofString "known"), (PySem.Str.ofString "beat"), (PySem.Str.ofString "seats"), (PySem.Str.ofString "here"), (PySem.Str.ofString "later"), (PySem.Str.ofString "part"), (PySem.Str.ofString "cell"), (PySem.Str.ofString "first"), (PySem.Str.ofString "rule")] (defScope x_shows) _ _ from ⟨rfl, by decide +kernel, by decide +kernel, by decide +kernel, by decide +kernel⟩) (fun _ _ _ _ _ => g_tup rfl (gs_cons (g_name (i := 10) hN rfl (.inl rfl) (show 10 ∉ others 13 [10, 11, 12] from by decide)) (gs_cons (g_tup rfl (gs_cons (g_name (i := 11) hN rfl (.inl rfl) (show 11 ∉ others 13 [10, 11, 12] from by decide)) (gs_cons (g_name (i := 12) hN rfl (.inl rfl) (show 12 ∉ others 13 [10, 11, 12] from by decide)) (gs_nil)))) (gs_nil)))) (fun _ _ _ _ _ => ts_nil) (fun _ _ _ _ _ => e_tup (a_cons (e_rd 10 (pv 10)) (a_cons (e_rd 12 (pv 12)) (a_nil)))))))))
    (s_cons (s_set (i := 8) hN rfl (.inl rfl) (by decide) (e_own O_moved hr (by decide) tk rfl (m_cons (e_rd 0 (pv 0)) (m_cons (e_ix hu (pr_pt 1) (pv 1) (e_pk 5 (pv 5))) (m_cons (e_rd 7 (pv 7)) (m_nil))))))
    (s_one (s_if (PW.pt (t_or (t_cmp (op_neC (Nat.lt_of_succ_lt hu)) pr_tt (e_own O_suns_of hr (by decide) tk rfl (m_cons (e_rd 0 (pv 0)) (m_cons (e_ix hu (pr_pt 1) (pv 1) (e_pk 5 (pv 5))) (m_cons (e_rd 8 (pv 8)) (m_nil))))) (e_look (e_lst (a_nil))) (nomark _)) (pw_or1 (t_cmp ((op_ninE hu)) pr_tt (e_tup (a_cons (e_bin op_modG pr_tt (e_bin op_addG (pr_pt 5) (pv 5) (e_look (e_c pe_int fun _ => repI))) (e_look (e_callB cb_len rfl E.len (by first | rfl | kernel_rfl) (r_one (e_pk 1 (pv 1)))))) (a_cons (e_own O_seats_of hr (by decide) tk rfl (m_cons (e_rd 8 (pv 8)) (m_nil))) (a_nil)))) (e_pk 4 (pv 4)) (by with_unfolding_all rfl))))) (s_one (s_ret (e_c pe_bl fun _ => repB))) (s_nil))))))
    (s_one (s_ret (e_c pe_bl fun _ => repB)))))))
theorem sc_need_told : FnScope [(PySem.Str.ofString "floor"), (PySem.Str.ofString "folk"), (PySem.Str.ofString "told"), (PySem.Str.ofString "number"), (PySem.Str.ofString "row"), (PySem.Str.ofString "good"), (PySem.Str.ofString "cell")] [(PySem.Str.ofString "floor"), (PySem.Str.ofString "folk"), (PySem.Str.ofString "told")] (defScope x_need_told) := ⟨rfl, rfl, rfl, by decide +kernel, rfl, by decide +kernel, by decide +kernel⟩
theorem ok_need_told (E : Env P w K mg ca) (O_is_cell : Own P w K mg base ca 2 (PySem.Str.ofString "is_cell") [(PySem.Str.ofString "part"), (PySem.Str.ofString "floor")] [false, false] m_is_cell) {f : Addr} {fd : FuncData} (F : FnQ K (PySem.Str.ofString "need_told") (PySem.Str.ofString "need_told") x_need_told f fd) : FnOk P w K mg base (L2.CX P w) 3 f fd [(PySem.Str.ofString "floor"), (PySem.Str.ofString "folk"), (PySem.Str.ofString "told")] (spOf ⟨P, w, K, ca⟩ [false, false, false] m_need_told) := by
  refine d_okD F sc_need_told rfl (by decide) fun cdv A outer s H Ex hr => ?_
  have hu : (cxOf (L2.CX P w) P w K mg base [(PySem.Str.ofString "floor"), (PySem.Str.ofString "folk"), (PySem.Str.ofString "told"), (PySem.Str.ofString "number"), (PySem.Str.ofString "row"), (PySem.Str.ofString "good"), (PySem.Str.ofString "cell")] (PySem.Str.ofString "need_told") (defScope x_need_told) f cdv A outer s H Ex).A.units + 65 < cLine := hu_room hr
  have hN := sc_need_told.nd
  have tk : Takes (cxOf (L2.CX P w) P w K mg base [(PySem.Str.ofString "floor"), (PySem.Str.ofString "folk"), (PySem.Str.ofString "told"), (PySem.Str.ofString "number"), (PySem.Str.ofString "row"), (PySem.Str.ofString "good"), (PySem.Str.ofString "cell")] (PySem.Str.ofString "need_told") (defScope x_need_told) f cdv A outer s H Ex) (fun cls d _ H => Ex cls d H) := takes_of rfl rfl rfl rfl
  exact s_cons (s_if (t_not (t_val (e_look (e_callB cb_isi rfl E.isinstance (by first | rfl | kernel_rfl) (r_two (pr_pt 2) (pv 2) (e_look (e_gT E.tuple (by first | rfl | kernel_rfl)))))))) (s_one (s_never)) (s_nil))
    (s_one (s_for (passes_of rfl) rfl (i_enum rfl E.enumerate (e_rd 2 (pv 2))) (g_tup rfl (gs_cons (g_name (i := 3) hN rfl (.inl rfl) (by decide)) (gs_cons (g_name (i := 4) hN rfl (.inl rfl) (by decide)) (gs_nil)))) (s_cons (s_set (i := 5) hN rfl (.inl rfl) (by decide) (e_and (e_cmp (op_ltC) (pr_pt 3) (pv 3) (e_look (e_gI E.MOST_BEATS)) (nomark _)) (e_and (e_asb (e_callB cb_isi rfl E.isinstance (by first | rfl | kernel_rfl) (r_two (pr_pt 4) (pv 4) (e_look (e_gT E.tuple (by first | rfl | kernel_rfl)))))) (pe_one (e_cmp (op_eqC (Nat.lt_of_succ_lt hu)) pr_tt (e_callB cb_len rfl E.len (by first | rfl | kernel_rfl) (r_one (e_pk 4 (pv 4)))) (e_look (e_callB cb_len rfl E.len (by first | rfl | kernel_rfl) (r_one (e_pk 1 (pv 1))))) (nomark _))))))
    (s_one (s_if (PW.pt (t_or (t_not (t_val (e_pk 5 (pv 5)))) (pw_or1 (t_not (t_val (e_look (e_callB (cb_all rfl) rfl E.all (by first | rfl | kernel_rfl) (r_one (e_look (e_lc (own := [((PySem.Str.ofString "cell"), 6)]) rfl hN (i_seq (e_rd 4 (pv 4))) (show BlkOk [(PySem.Str.ofString "floor"), (PySem.Str.ofString "folk"), (PySem.Str.ofString "told"), (PySem.Str.ofString "number"), (PySem.Str.ofString "row"), (PySem.Str.ofString "good"), (PySem.Str.ofString "cell")] (defScope x_need_told) _ _ from ⟨rfl, by decide +kernel, by decide +kernel, by decide +kernel, by decide +kernel⟩) (fun _ _ _ _ _ => g_name (i := 6) hN rfl (.inl rfl) (show 6 ∉ others 7 [6] from by decide)) (fun _ _ _ _ _ => ts_nil) (fun _ _ _ _ _ => e_own O_is_cell hr (by decide) L2.takes0 rfl (m_cons (e_rd 6 (pv 6)) (m_cons (e_rd 0 (pv 0)) (m_nil)))))))))))))) (s_one (s_never)) (s_nil))))))
theorem sc_suns : FnScope [(PySem.Str.ofString "floor"), (PySem.Str.ofString "folk"), (PySem.Str.ofString "told"), (PySem.Str.ofString "some"), (PySem.Str.ofString "row"), (PySem.Str.ofString "longer"), (PySem.Str.ofString "sun"), (PySem.Str.ofString "here"), (PySem.Str.ofString "sign"), (PySem.Str.ofString "later")] [(PySem.Str.ofString "floor"), (PySem.Str.ofString "folk"), (PySem.Str.ofString "told")] (defScope x_suns) := ⟨rfl, rfl, rfl, by decide +kernel, rfl, by decide +kernel, by decide +kernel⟩
theorem ok_suns (E : Env P w K mg ca) (O_moved : Own P w K mg base ca 5 (PySem.Str.ofString "moved") [(PySem.Str.ofString "floor"), (PySem.Str.ofString "sign"), (PySem.Str.ofString "folk")] [false, false, false] m_moved) (O_need_floor : Own P w K mg base ca 4 (PySem.Str.ofString "need_floor") [(PySem.Str.ofString "floor")] [false] m_need_floor) (O_need_folk : Own P w K mg base ca 3 (PySem.Str.ofString "need_folk") [(PySem.Str.ofString "floor"), (PySem.Str.ofString "folk")] [false, false] m_need_folk) (O_need_told : Own P w K mg base ca 3 (PySem.Str.ofString "need_told") [(PySem.Str.ofString "floor"), (PySem.Str.ofString "folk"), (PySem.Str.ofString "told")] [false, false, false] m_need_told) (O_seats_of : Own P w K mg base ca 1 (PySem.Str.ofString "seats_of") [(PySem.Str.ofString "folk")] [false] m_seats_of) {f : Addr} {fd : FuncData} (F : FnQ K (PySem.Str.ofString "suns") (PySem.Str.ofString "suns") x_suns f fd) : FnOk P w K mg base (L2.CX P w) 6 f fd [(PySem.Str.ofString "floor"), (PySem.Str.ofString "folk"), (PySem.Str.ofString "told")] (spOf ⟨P, w, K, ca⟩ [false, false, false] m_suns) := by
  refine d_okD F sc_suns rfl (by decide) fun cdv A outer s H Ex hr => ?_
  have hu : (cxOf (L2.CX P w) P w K mg base [(PySem.Str.ofString "floor"), (PySem.Str.ofString "folk"), (PySem.Str.ofString "told"), (PySem.Str.ofString "some"), (PySem.Str.ofString "row"), (PySem.Str.ofString "longer"), (PySem.Str.ofString "sun"), (PySem.Str.ofString "here"), (PySem.Str.ofString "sign"), (PySem.Str.ofString "later")] (PySem.Str.ofString "suns") (defScope x_suns) f cdv A outer s H Ex).A.units + 65 < cLine := hu_room hr
  have hN := sc_suns.nd
  have tk : Takes (cxOf (L2.CX P w) P w K mg base [(PySem.Str.ofString "floor"), (PySem.Str.ofString "folk"), (PySem.Str.ofString "told"), (PySem.Str.ofString "some"), (PySem.Str.ofString "row"), (PySem.Str.ofString "longer"), (PySem.Str.ofString "sun"), (PySem.Str.ofString "here"), (PySem.Str.ofString "sign"), (PySem.Str.ofString "later")] (PySem.Str.ofString "suns") (defScope x_suns) f cdv A outer s H Ex) (fun cls d _ H => Ex cls d H) := takes_of rfl rfl rfl rfl
  exact s_cons (s_expr (e_own O_need_floor hr (by decide) tk rfl (m_cons (e_rd 0 (pv 0)) (m_nil))))
    (s_cons (s_expr (e_own O_need_folk hr (by decide) tk rfl (m_cons (e_rd 0 (pv 0)) (m_cons (e_rd 1 (pv 1)) (m_nil)))))
    (s_cons (s_expr (e_own O_need_told hr (by decide) tk rfl (m_cons (e_rd 0 (pv 0)) (m_cons (e_rd 1 (pv 1)) (m_cons (e_rd 2 (pv 2)) (m_nil))))))
    (s_cons (s_set (i := 3) hN rfl (.inl rfl) (by decide) (e_lst (a_cons (e_tup (a_cons (e_c pe_str fun _ => repS) (a_cons (e_rd 1 (pv 1)) (a_nil)))) (a_nil))))
    (s_cons (s_for (passes_of rfl) rfl (i_seq (e_rd 2 (pv 2))) (g_name (i := 4) hN rfl (.inl rfl) (by decide)) (s_cons (s_set (i := 5) hN rfl (.inl rfl) (by decide) (e_lst (a_nil)))
    (s_cons (s_for (passes_of rfl) rfl (i_seq (e_rd 3 (pv 3))) (g_tup rfl (gs_cons (g_name (i := 6) hN rfl (.inl rfl) (by decide)) (gs_cons (g_name (i := 7) hN rfl (.inl rfl) (by decide)) (gs_nil)))) (s_one (s_for (passes_of rfl) rfl (i_seq (e_gsort E.STEPSk (by decide +kernel) rfl hu rfl E.sorted)) (g_name (i := 8) hN rfl (.inl rfl) (by decide)) (s_cons (s_set (i := 9) hN rfl (.inl rfl) (by decide) (e_own O_moved hr (by decide) tk rfl (m_cons (e_rd 0 (pv 0)) (m_cons (e_rd 8 (pv 8)) (m_cons (e_rd 7 (pv 7)) (m_nil))))))
    (s_one (s_if (t_cmp (op_eqC (Nat.lt_of_succ_lt hu)) pr_tt (e_own O_seats_of hr (by decide) tk rfl (m_cons (e_rd 9 (pv 9)) (m_nil))) (e_pk 4 (pv 4)) (nomark _)) (s_one (s_expr (e_append 5 (pv 5) (e_tup (a_cons (e_bin op_addG (pr_pt 6) (pv 6) (e_pk 8 (pv 8))) (a_cons (e_rd 9 (pv 9)) (a_nil))))))) (s_nil)))))))
    (s_one (s_set (i := 3) hN rfl (.inl rfl) (by decide) (e_rd 5 (pv 5)))))))
    (s_one (s_ret (e_lc (own := [((PySem.Str.ofString "sun"), 6), ((PySem.Str.ofString "here"), 7)]) rfl hN (i_seq (e_rd 3 (pv 3))) (show BlkOk [(PySem.Str.ofString "floor"), (PySem.Str.ofString "folk"), (PySem.Str.ofString "told"), (PySem.Str.ofString "some"), (PySem.Str.ofString "row"), (PySem.Str.ofString "longer"), (PySem.Str.ofString "sun"), (PySem.Str.ofString "here"), (PySem.Str.ofString "sign"), (PySem.Str.ofString "later")] (defScope x_suns) _ _ from ⟨rfl, by decide +kernel, by decide +kernel, by decide +kernel, by decide +kernel⟩) (fun _ _ _ _ _ => g_tup rfl (gs_cons (g_name (i := 6) hN rfl (.inl rfl) (show 6 ∉ others 10 [6, 7] from by decide)) (gs_cons (g_name (i := 7) hN rfl (.inl rfl) (show 7 ∉ others 10 [6, 7] from by decide)) (gs_nil)))) (fun _ _ _ _ _ => ts_nil) (fun _ _ _ _ _ => e_rd 6 (pv 6)))))))))
theorem sc__law_cloth : FnScope [(PySem.Str.ofString "_law_cell"), (PySem.Str.ofString "_law_floor"), (PySem.Str.ofString "_law_folk"), (PySem.Str.ofString "_law_bare"), (PySem.Str.ofString "_law_other"), (PySem.Str.ofString "_law_both"), (PySem.Str.ofString "_law_due")] [(PySem.Str.ofString "_law_cell")] (defScope x__law_cloth) := ⟨rfl, rfl, rfl, by decide +kernel, rfl, by decide +kernel, by decide +kernel⟩
theorem ok__law_cloth (E : Env P w K mg ca) (O__law_alike : Own P w K mg base ca 7 (PySem.Str.ofString "_law_alike") [(PySem.Str.ofString "_law_one"), (PySem.Str.ofString "_law_due")] [false, false] (m__law_alike 6)) (O_awnings : Own P w K mg base ca 9 (PySem.Str.ofString "awnings") [(PySem.Str.ofString "floor"), (PySem.Str.ofString "sun"), (PySem.Str.ofString "folk"), (PySem.Str.ofString "most")] [false, false, false, false] m_awnings) (O_course : Own P w K mg base ca 8 (PySem.Str.ofString "course") [(PySem.Str.ofString "floor"), (PySem.Str.ofString "sun"), (PySem.Str.ofString "folk")] [false, false, false] m_course) (O_paper : Own P w K mg base ca 9 (PySem.Str.ofString "paper") [(PySem.Str.ofString "floor"), (PySem.Str.ofString "sun"), (PySem.Str.ofString "folk")] [false, false, false] m_paper) (O_parted : Own P w K mg base ca 5 (PySem.Str.ofString "parted") [(PySem.Str.ofString "floor"), (PySem.Str.ofString "other"), (PySem.Str.ofString "sun")] [false, false, false] m_parted) (O_parting : Own P w K mg base ca 8 (PySem.Str.ofString "parting") [(PySem.Str.ofString "floor"), (PySem.Str.ofString "sun"), (PySem.Str.ofString "one"), (PySem.Str.ofString "other")] [false, false, false, false] m_parting) (O_shade : Own P w K mg base ca 5 (PySem.Str.ofString "shade") [(PySem.Str.ofString "floor"), (PySem.Str.ofString "sun"), (PySem.Str.ofString "beat")] [false, false, false] m_shade) (O_shows : Own P w K mg base ca 6 (PySem.Str.ofString "shows") [(PySem.Str.ofString "floor"), (PySem.Str.ofString "sun"), (PySem.Str.ofString "folk"), (PySem.Str.ofString "told")] [false, false, false, false] m_shows) (O_suns : Own P w K mg base ca 6 (PySem.Str.ofString "suns") [(PySem.Str.ofString "floor"), (PySem.Str.ofString "folk"), (PySem.Str.ofString "told")] [false, false, false] m_suns) {f : Addr} {fd : FuncData} (F : FnQ K (PySem.Str.ofString "_law_cloth") (PySem.Str.ofString "_law_cloth") x__law_cloth f fd) : FnOk P w K mg base (L2.CX P w) 10 f fd [(PySem.Str.ofString "_law_cell")] (spOf ⟨P, w, K, ca⟩ [false] m__law_cloth) := by
  refine d_okD F sc__law_cloth rfl (by decide) fun cdv A outer s H Ex hr => ?_
  have hu : (cxOf (L2.CX P w) P w K mg base [(PySem.Str.ofString "_law_cell"), (PySem.Str.ofString "_law_floor"), (PySem.Str.ofString "_law_folk"), (PySem.Str.ofString "_law_bare"), (PySem.Str.ofString "_law_other"), (PySem.Str.ofString "_law_both"), (PySem.Str.ofString "_law_due")] (PySem.Str.ofString "_law_cloth") (defScope x__law_cloth) f cdv A outer s H Ex).A.units + 65 < cLine := hu_room hr
  have hN := sc__law_cloth.nd
  have tk : Takes (cxOf (L2.CX P w) P w K mg base [(PySem.Str.ofString "_law_cell"), (PySem.Str.ofString "_law_floor"), (PySem.Str.ofString "_law_folk"), (PySem.Str.ofString "_law_bare"), (PySem.Str.ofString "_law_other"), (PySem.Str.ofString "_law_both"), (PySem.Str.ofString "_law_due")] (PySem.Str.ofString "_law_cloth") (defScope x__law_cloth) f cdv A outer s H Ex) (fun cls d _ H => Ex cls d H) := takes_of rfl rfl rfl rfl
  exact s_cons (s_par2 rfl hN (i := 1) (j := 2) rfl rfl (by decide) (by decide) (by decide) rfl rfl (a_cons (e_tup (a_cons (e_c pe_int fun _ => repI) (a_cons (e_c pe_int fun _ => repI) (a_cons (e_tup (a_nil)) (a_cons (e_tup (a_cons (e_rd 0 (pv 0)) (a_nil))) (a_nil)))))) (a_cons (e_tup (a_cons (e_tup (a_cons (e_rd 0 (pv 0)) (a_cons (e_c pe_str fun _ => repS) (a_nil)))) (a_nil))) (a_nil))) rfl)
    (s_cons (s_if (PW.pt (t_or (t_not (t_val (e_look (e_own O__law_alike hr (by decide) tk rfl (m_cons (e_own O_paper hr (by decide) tk rfl (m_cons (e_rd 1 (pv 1)) (m_cons (e_c pe_str fun _ => repS) (m_cons (e_rd 2 (pv 2)) (m_nil))))) (m_cons (e_lst (a_cons (e_tup (a_cons (e_c pe_int fun _ => repI) (a_cons (e_tup (a_cons (e_rd 0 (pv 0)) (a_nil))) (a_nil)))) (a_nil))) (m_nil))))))) (pw_or1 (t_cmp (op_isNC) pr_tt (e_own O_shows hr (by decide) tk rfl (m_cons (e_rd 1 (pv 1)) (m_cons (e_c pe_str fun _ => repS) (m_cons (e_rd 2 (pv 2)) (m_cons (e_lst (a_cons (e_tup (a_cons (e_c pe_int fun _ => repI) (a_cons (e_tup (a_cons (e_rd 0 (pv 0)) (a_nil))) (a_nil)))) (a_nil))) (m_nil)))))) (e_look (e_c pe_bl fun _ => repB)) (nomark _))))) (s_one (s_ret (e_c pe_bl fun _ => repB))) (s_nil))
    (s_cons (s_if (t_not (t_val (e_look (e_own O__law_alike hr (by decide) tk rfl (m_cons (e_frz (e_lst (a_cons (e_own O_shade hr (by decide) tk rfl (m_cons (e_rd 1 (pv 1)) (m_cons (e_c pe_str fun _ => repS) (m_cons (e_c pe_int fun _ => repI) (m_nil))))) (a_cons (e_own O_parted hr (by decide) tk rfl (m_cons (e_rd 1 (pv 1)) (m_cons (e_tup (a_cons (e_c pe_int fun _ => repI) (a_cons (e_c pe_int fun _ => repI) (a_cons (e_tup (a_nil)) (a_cons (e_tup (a_nil)) (a_nil)))))) (m_cons (e_c pe_str fun _ => repS) (m_nil))))) (a_nil))))) (m_cons (e_frz (e_lst (a_cons (e_lst (a_cons (e_rd 0 (pv 0)) (a_nil))) (a_cons (e_tup (a_cons (e_c pe_int fun _ => repI) (a_cons (e_rd 0 (pv 0)) (a_nil)))) (a_nil))))) (m_nil))))))) (s_one (s_ret (e_c pe_bl fun _ => repB))) (s_nil))
    (s_cons (s_set (i := 3) hN rfl (.inl rfl) (by decide) (e_tup (a_cons (e_c pe_int fun _ => repI) (a_cons (e_c pe_int fun _ => repI) (a_cons (e_tup (a_nil)) (a_cons (e_tup (a_nil)) (a_nil)))))))
    (s_cons (s_if (PW.pt (t_or (t_cmp (op_neC (Nat.lt_of_succ_lt hu)) pr_tt (e_own O_awnings hr (by decide) tk rfl (m_cons (e_rd 3 (pv 3)) (m_cons (e_c pe_str fun _ => repS) (m_cons (e_rd 2 (pv 2)) (m_cons (e_c pe_int fun _ => repI) (m_nil)))))) (e_look (e_tup (a_cons (e_rd 0 (pv 0)) (a_nil)))) (nomark _)) (pw_or1 (t_cmp (op_isNC) pr_tt (e_own O_awnings hr (by decide) tk rfl (m_cons (e_rd 3 (pv 3)) (m_cons (e_c pe_str fun _ => repS) (m_cons (e_rd 2 (pv 2)) (m_cons (e_c pe_int fun _ => repI) (m_nil)))))) (e_look (e_c pe_non fun _ => repN)) (nomark _))))) (s_one (s_ret (e_c pe_bl fun _ => repB))) (s_nil))
    (s_cons (s_set (i := 4) hN rfl (.inl rfl) (by decide) (e_tup (a_cons (e_bin op_modG pr_tt (e_bin op_addG pr_tt (e_ix hu (pr_pt 0) (pv 0) (e_look (e_c pe_int fun _ => repI))) (e_look (e_c pe_int fun _ => repI))) (e_look (e_c pe_int fun _ => repI))) (a_cons (e_ix hu (pr_pt 0) (pv 0) (e_look (e_c pe_int fun _ => repI))) (a_nil)))))
    (s_cons (s_set (i := 5) hN rfl (.inl rfl) (by decide) (e_own O_awnings hr (by decide) tk rfl (m_cons (e_rd 3 (pv 3)) (m_cons (e_c pe_str fun _ => repS) (m_cons (e_tup (a_cons (e_tup (a_cons (e_rd 0 (pv 0)) (a_cons (e_c pe_str fun _ => repS) (a_nil)))) (a_cons (e_tup (a_cons (e_rd 4 (pv 4)) (a_cons (e_c pe_str fun _ => repS) (a_nil)))) (a_nil)))) (m_cons (e_c pe_int fun _ => repI) (m_nil)))))))
    (s_cons (s_if (PW.pt (t_or (t_cmp (op_neC (Nat.lt_of_succ_lt hu)) (pr_pt 5) (pv 5) (e_look (e_callTy cb_tuple rfl E.tuple (by first | rfl | kernel_rfl) (r_one (e_look (e_callB (cb_sorted rfl hu) rfl E.sorted (by first | rfl | kernel_rfl) (r_one (e_look (e_lst (a_cons (e_rd 0 (pv 0)) (a_cons (e_rd 4 (pv 4)) (a_nil))))))))))) (nomark _)) (pw_or1 (t_cmp (op_isNC) pr_tt (e_own O_awnings hr (by decide) tk rfl (m_cons (e_rd 3 (pv 3)) (m_cons (e_c pe_str fun _ => repS) (m_cons (e_tup (a_cons (e_tup (a_cons (e_rd 0 (pv 0)) (a_cons (e_c pe_str fun _ => repS) (a_nil)))) (a_cons (e_tup (a_cons (e_rd 4 (pv 4)) (a_cons (e_c pe_str fun _ => repS) (a_nil)))) (a_nil)))) (m_cons (e_c pe_int fun _ => repI) (m_nil)))))) (e_look (e_c pe_non fun _ => repN)) (nomark _))))) (s_one (s_ret (e_c pe_bl fun _ => repB))) (s_nil))
    (s_cons (s_if (PW.pt (t_or (t_not (t_val (e_look (e_own O__law_alike hr (by decide) tk rfl (m_cons (e_own O_suns hr (by decide) tk rfl (m_cons (e_rd 3 (pv 3)) (m_cons (e_rd 2 (pv 2)) (m_cons (e_tup (a_cons (e_tup (a_cons (e_rd 0 (pv 0)) (a_nil))) (a_nil))) (m_nil))))) (m_cons (e_lst (a_cons (e_c pe_str fun _ => repS) (a_cons (e_c pe_str fun _ => repS) (a_cons (e_c pe_str fun _ => repS) (a_cons (e_c pe_str fun _ => repS) (a_cons (e_c pe_str fun _ => repS) (a_nil))))))) (m_nil))))))) (pw_or1 (t_cmp (op_neC (Nat.lt_of_succ_lt hu)) pr_tt (e_own O_suns hr (by decide) tk rfl (m_cons (e_rd 3 (pv 3)) (m_cons (e_rd 2 (pv 2)) (m_cons (e_tup (a_cons (e_tup (a_cons (e_rd 4 (pv 4)) (a_nil))) (a_nil))) (m_nil))))) (e_look (e_lst (a_nil))) (nomark _))))) (s_one (s_ret (e_c pe_bl fun _ => repB))) (s_nil))
    (s_cons (s_set (i := 6) hN rfl (.inl rfl) (by decide) (e_lst (a_cons (e_c pe_non fun _ => repN) (a_cons (e_tup (a_cons (e_c pe_int fun _ => repI) (a_cons (e_c pe_int fun _ => repI) (a_cons (e_lst (a_cons (e_tup (a_cons (e_rd 0 (pv 0)) (a_nil))) (a_cons (e_tup (a_cons (e_rd 0 (pv 0)) (a_nil))) (a_nil)))) (a_nil))))) (a_nil)))))
    (s_one (s_ret (e_own O__law_alike hr (by decide) tk rfl (m_cons (e_frz (e_lst (a_cons (e_own O_parting hr (by decide) tk rfl (m_cons (e_rd 3 (pv 3)) (m_cons (e_c pe_str fun _ => repS) (m_cons (e_c pe_str fun _ => repS) (m_cons (e_c pe_str fun _ => repS) (m_nil)))))) (a_cons (e_own O_course hr (by decide) tk rfl (m_cons (e_rd 3 (pv 3)) (m_cons (e_c pe_str fun _ => repS) (m_cons (e_rd 2 (pv 2)) (m_nil))))) (a_nil))))) (m_cons (e_rd 6 (pv 6)) (m_nil)))))))))))))))
theorem sc__law_word : FnScope [(PySem.Str.ofString "_law_work"), (PySem.Str.ofString "e"), (PySem.Str.ofString "_law_kinds"), (PySem.Str.ofString "_law_at")] [(PySem.Str.ofString "_law_work")] (defScope x__law_word) := ⟨rfl, rfl, rfl, by decide +kernel, rfl, by decide +kernel, by decide +kernel⟩
theorem ok__law_word (E : Env P w K mg ca) {f : Addr} {fd : FuncData} (F : FnQ K (PySem.Str.ofString "_law_word") (PySem.Str.ofString "_law_word") x__law_word f fd) (gl : mg (PySem.Str.ofString "_law_word") = some (.ref f)) (bd : Binds K fd [(PySem.Str.ofString "_law_work")] []) : WordK P w K mg base ca 0 (PySem.Str.ofString "_law_word") n__law_word i__law_word (covT cv_ShadeError) h__law_word := by
  have hN := sc__law_word.nd
  exact d_word (i := 1) (N := [(PySem.Str.ofString "_law_work"), (PySem.Str.ofString "e"), (PySem.Str.ofString "_law_kinds"), (PySem.Str.ofString "_law_at")]) (scope := defScope x__law_word) E.xa0 F gl bd sc__law_word rfl rfl (.inl rfl) rfl rfl hN rfl (fun _ _ => rfl) (fun cdv A outer s H => ⟨rfl, by decide, .inl E.gx_ShadeError⟩) E.cov_ShadeError (fun cdv A outer s H a oe d k pn' hr hk hz hf => by
    have hu := hu_room hr
    exact s_cons (s_set (i := 2) hN rfl (.inl rfl) (by decide) (e_lst (a_cons (e_isX (c := .ref (ca 4)) (cv := .ref (ca 4)) (E.xc_ShadeError _ _ hk).1 (fun b hb => E.sub_BadSun _ _ hb) (fun u h => h) hz hf E.isinstance (e_rd 1 (pv 1)) (pe_glob rfl E.gx_BadSun rfl)) (a_cons (e_isX (c := .ref (ca 5)) (cv := .ref (ca 5)) (E.xc_ShadeError _ _ hk).1 (fun b hb => E.sub_BadFolk _ _ hb) (fun u h => h) hz hf E.isinstance (e_rd 1 (pv 1)) (pe_glob rfl E.gx_BadFolk rfl)) (a_cons (e_isX (c := .ref (ca 8)) (cv := .ref (ca 8)) (E.xc_ShadeError _ _ hk).1 (fun b hb => E.sub_BadTold _ _ hb) (fun u h => h) hz hf E.isinstance (e_rd 1 (pv 1)) (pe_glob rfl E.gx_BadTold rfl)) (a_cons (e_isX (c := .ref (ca 9)) (cv := .ref (ca 9)) (E.xc_ShadeError _ _ hk).1 (fun b hb => E.sub_BadPaper _ _ hb) (fun u h => h) hz hf E.isinstance (e_rd 1 (pv 1)) (pe_glob rfl E.gx_BadPaper rfl)) (a_nil)))))))     (s_cons (s_set (i := 2) hN rfl (.inl rfl) (by decide) (e_bin op_addG (pr_pt 2) (pv 2) (e_look (e_lst (a_cons (e_isX (c := .ref (ca 11)) (cv := .ref (ca 11)) (E.xc_ShadeError _ _ hk).1 (fun b hb => E.sub_BadDeed _ _ hb) (fun u h => h) hz hf E.isinstance (e_rd 1 (pv 1)) (pe_glob rfl E.gx_BadDeed rfl)) (a_cons (e_isX (c := .ref (ca 3)) (cv := .ref (ca 3)) (E.xc_ShadeError _ _ hk).1 (fun b hb => E.sub_BadFloor _ _ hb) (fun u h => h) hz hf E.isinstance (e_rd 1 (pv 1)) (pe_glob rfl E.gx_BadFloor rfl)) (a_cons (e_isX (c := .ref (ca 12)) (cv := .ref (ca 12)) (E.xc_ShadeError _ _ hk).1 (fun b hb => E.sub_Halted _ _ hb) (fun u h => h) hz hf E.isinstance (e_rd 1 (pv 1)) (pe_glob rfl E.gx_Halted rfl)) (a_nil))))))))     (s_cons (s_set (i := 2) hN rfl (.inl rfl) (by decide) (e_bin op_addG (pr_pt 2) (pv 2) (e_look (e_lst (a_cons (e_isX (c := .ref (ca 13)) (cv := .ref (ca 13)) (E.xc_ShadeError _ _ hk).1 (fun b hb => E.sub_BadText _ _ hb) (fun u h => h) hz hf E.isinstance (e_rd 1 (pv 1)) (pe_glob rfl E.gx_BadText rfl)) (a_cons (e_isX (c := .ref (ca 10)) (cv := .ref (ca 10)) (E.xc_ShadeError _ _ hk).1 (fun b hb => E.sub_InSun _ _ hb) (fun u h => h) hz hf E.isinstance (e_rd 1 (pv 1)) (pe_glob rfl E.gx_InSun rfl)) (a_cons (e_isX (c := .ref (ca 6)) (cv := .ref (ca 6)) (E.xc_ShadeError _ _ hk).1 (fun b hb => E.sub_BadCount _ _ hb) (fun u h => h) hz hf E.isinstance (e_rd 1 (pv 1)) (pe_glob rfl E.gx_BadCount rfl)) (a_cons (e_isX (c := .ref (ca 7)) (cv := .ref (ca 7)) (E.xc_ShadeError _ _ hk).1 (fun b hb => E.sub_BadRule _ _ hb) (fun u h => h) hz hf E.isinstance (e_rd 1 (pv 1)) (pe_glob rfl E.gx_BadRule rfl)) (a_nil)))))))))     (s_cons (s_if (PW.pt (t_or (t_cmp (op_neC (Nat.lt_of_succ_lt hu)) pr_tt (e_cntL (i := 2) hu (pv 2) (e_look (e_c pe_bl fun _ => repB))) (e_look (e_c pe_int fun _ => repI)) (nomark _)) (pw_or1 (t_not (t_val (e_look (e_isX (c := .ty "ValueError") (cv := .type "ValueError") (E.xc_ShadeError _ _ hk).1 (fun b hb => E.sub_ValueError _ _ hb) (fun u h => h) hz hf E.isinstance (e_rd 1 (pv 1)) (pe_bltn rfl E.ValueError boot_ValueError rfl)))))))) (s_one (s_ret (e_tup (a_cons (e_c pe_str fun _ => repS) (a_nil))))) (s_nil))     (s_cons (s_set (i := 3) hN rfl (.inl rfl) (by decide) (e_idxL (i := 2) hu (pv 2) (e_look (e_c pe_bl fun _ => repB))))     (s_cons (s_if (t_cmp (op_ltC) (pr_pt 3) (pv 3) (e_look (e_c pe_int fun _ => repI)) (nomark _)) (s_one (s_ret (e_tup (a_cons (e_ix hu pr_tt (e_lst (a_cons (e_c pe_str fun _ => repS) (a_cons (e_c pe_str fun _ => repS) (a_cons (e_c pe_str fun _ => repS) (a_cons (e_c pe_str fun _ => repS) (a_cons (e_c pe_str fun _ => repS) (a_nil))))))) (e_pk 3 (pv 3))) (a_cons (e_fldX (E.xc_ShadeError _ _ hk).1 ((E.xc_ShadeError _ _ hk).2 (PySem.Str.ofString "number") (by simp)) hz hf (e_rd 1 (pv 1))) (a_nil)))))) (s_nil))     (s_cons (s_if (t_cmp (op_ltC) (pr_pt 3) (pv 3) (e_look (e_c pe_int fun _ => repI)) (nomark _)) (s_one (s_ret (e_ite (t_cmp (op_eqC (Nat.lt_of_succ_lt hu)) (pr_pt 3) (pv 3) (e_look (e_c pe_int fun _ => repI)) (nomark _)) (e_tup (a_cons (e_c pe_str fun _ => repS) (a_cons (e_fldX (E.xc_ShadeError _ _ hk).1 ((E.xc_ShadeError _ _ hk).2 (PySem.Str.ofString "part") (by simp)) hz hf (e_rd 1 (pv 1))) (a_cons (e_fldX (E.xc_ShadeError _ _ hk).1 ((E.xc_ShadeError _ _ hk).2 (PySem.Str.ofString "number") (by simp)) hz hf (e_rd 1 (pv 1))) (a_nil))))) (e_tup (a_cons (e_c pe_str fun _ => repS) (a_cons (e_fldX (E.xc_ShadeError _ _ hk).1 ((E.xc_ShadeError _ _ hk).2 (PySem.Str.ofString "number") (by simp)) hz hf (e_rd 1 (pv 1))) (a_cons (e_fldX (E.xc_ShadeError _ _ hk).1 ((E.xc_ShadeError _ _ hk).2 (PySem.Str.ofString "done") (by simp)) hz hf (e_rd 1 (pv 1))) (a_nil)))))))) (s_nil))     (s_cons (s_if (t_cmp (op_ltC) (pr_pt 3) (pv 3) (e_look (e_c pe_int fun _ => repI)) (nomark _)) (s_one (s_ret (e_ite (t_cmp (op_eqC (Nat.lt_of_succ_lt hu)) (pr_pt 3) (pv 3) (e_look (e_c pe_int fun _ => repI)) (nomark _)) (e_tup (a_cons (e_c pe_str fun _ => repS) (a_cons (e_fldX (E.xc_ShadeError _ _ hk).1 ((E.xc_ShadeError _ _ hk).2 (PySem.Str.ofString "row") (by simp)) hz hf (e_rd 1 (pv 1))) (a_nil)))) (e_tup (a_cons (e_c pe_str fun _ => repS) (a_cons (e_fldX (E.xc_ShadeError _ _ hk).1 ((E.xc_ShadeError _ _ hk).2 (PySem.Str.ofString "beat") (by simp)) hz hf (e_rd 1 (pv 1))) (a_nil))))))) (s_nil))     (s_one (s_ret (e_tup (a_cons (e_ix hu pr_tt (e_lst (a_cons (e_c pe_str fun _ => repS) (a_cons (e_c pe_str fun _ => repS) (a_nil)))) (e_look (e_bin op_subG (pr_pt 3) (pv 3) (e_look (e_c pe_int fun _ => repI))))) (a_nil))))))))))))) (fun _ => rfl)

theorem sc_restless : FnScope [(PySem.Str.ofString "floor"), (PySem.Str.ofString "sun"), (PySem.Str.ofString "folk"), (PySem.Str.ofString "found"), (PySem.Str.ofString "last"), (PySem.Str.ofString "number"), (PySem.Str.ofString "row")] [(PySem.Str.ofString "floor"), (PySem.Str.ofString "sun"), (PySem.Str.ofString "folk")] (defScope x_restless) := ⟨rfl, rfl, rfl, by decide +kernel, rfl, by decide +kernel, by decide +kernel⟩
theorem ok_restless (E : Env P w K mg ca) (O_Course_init : OwnI P w K mg base ca 0 6 (PySem.Str.ofString "Course") [(PySem.Str.ofString "self"), (PySem.Str.ofString "floor"), (PySem.Str.ofString "sun"), (PySem.Str.ofString "folk")] [false, false, false] m_Course_init) (O_need_all : Own P w K mg base ca 5 (PySem.Str.ofString "need_all") [(PySem.Str.ofString "floor"), (PySem.Str.ofString "sun"), (PySem.Str.ofString "folk")] [false, false, false] m_need_all) {f : Addr} {fd : FuncData} (F : FnQ K (PySem.Str.ofString "restless") (PySem.Str.ofString "restless") x_restless f fd) : FnOk P w K mg base (L2.CX P w) 8 f fd [(PySem.Str.ofString "floor"), (PySem.Str.ofString "sun"), (PySem.Str.ofString "folk")] (spOf ⟨P, w, K, ca⟩ [false, false, false] m_restless) := by
  refine d_okD F sc_restless rfl (by decide) fun cdv A outer s H Ex hr => ?_
  have hu : (cxOf (L2.CX P w) P w K mg base [(PySem.Str.ofString "floor"), (PySem.Str.ofString "sun"), (PySem.Str.ofString "folk"), (PySem.Str.ofString "found"), (PySem.Str.ofString "last"), (PySem.Str.ofString "number"), (PySem.Str.ofString "row")] (PySem.Str.ofString "restless") (defScope x_restless) f cdv A outer s H Ex).A.units + 65 < cLine := hu_room hr
  have hN := sc_restless.nd
  have tk : Takes (cxOf (L2.CX P w) P w K mg base [(PySem.Str.ofString "floor"), (PySem.Str.ofString "sun"), (PySem.Str.ofString "folk"), (PySem.Str.ofString "found"), (PySem.Str.ofString "last"), (PySem.Str.ofString "number"), (PySem.Str.ofString "row")] (PySem.Str.ofString "restless") (defScope x_restless) f cdv A outer s H Ex) (fun cls d _ H => Ex cls d H) := takes_of rfl rfl rfl rfl
  exact s_cons (s_expr (e_own O_need_all hr (by decide) tk rfl (m_cons (e_rd 0 (pv 0)) (m_cons (e_rd 1 (pv 1)) (m_cons (e_rd 2 (pv 2)) (m_nil))))))
    (s_cons (s_set (i := 3) hN rfl (.inl rfl) (by decide) (e_frz (e_ownI O_Course_init hr (by decide) tk rfl (len_cons (len_cons (len_cons (len_nil)))) (a_cons (e_rd 0 (pv 0)) (a_cons (e_rd 1 (pv 1)) (a_cons (e_rd 2 (pv 2)) (a_nil)))))))
    (s_cons (s_set (i := 4) hN rfl (.inr rfl) (by decide) (e_sli (e_fld (C := 0) (e_pk 3 (pv 3)) E.cls0 E.na_rows) (p_some (e_look (e_fld (C := 0) (e_pk 3 (pv 3)) E.cls0 E.na_tail))) p_none))
    (s_one (s_ret (e_lc (own := [((PySem.Str.ofString "number"), 5)]) rfl hN (i_rng1 rfl E.range (r_one (e_look (e_callB cb_len rfl E.len (by first | rfl | kernel_rfl) (r_one (e_pk 2 (pv 2))))))) (show BlkOk [(PySem.Str.ofString "floor"), (PySem.Str.ofString "sun"), (PySem.Str.ofString "folk"), (PySem.Str.ofString "found"), (PySem.Str.ofString "last"), (PySem.Str.ofString "number"), (PySem.Str.ofString "row")] (defScope x_restless) _ _ from ⟨rfl, by decide +kernel, by decide +kernel, by decide +kernel, by decide +kernel⟩) (fun _ _ _ _ _ => g_name (i := 5) hN rfl (.inr rfl) (show 5 ∉ others 7 [5] from by decide)) (fun _ _ _ _ _ => ts_one (t_val (e_look (e_callB (cb_any rfl) rfl E.any (by first | rfl | kernel_rfl) (r_one (e_look (e_lc (own := [((PySem.Str.ofString "row"), 6)]) rfl hN (i_seq (e_rd 4 (pv 4))) (blk_by (by kernel_rfl)) (fun _ _ _ _ _ => g_name (i := 6) hN rfl (.inl rfl) (show 6 ∉ others 7 [6] from by decide)) (fun _ _ _ _ _ => ts_nil) (fun _ _ _ _ _ => e_cmp (op_neC (Nat.lt_of_succ_lt hu)) pr_tt (e_ix hu (pr_pt 6) (pv 6) (e_pk 5 (pv 5))) (e_look (e_ix hu pr_tt (e_ix hu (pr_pt 4) (pv 4) (e_look (e_c pe_int fun _ => repI))) (e_pk 5 (pv 5)))) (nomark _))))))))) (fun _ _ _ _ _ => e_rd 5 (pv 5)))))))
theorem sc_scorched : FnScope [(PySem.Str.ofString "floor"), (PySem.Str.ofString "sun"), (PySem.Str.ofString "folk"), (PySem.Str.ofString "found"), (PySem.Str.ofString "counts"), (PySem.Str.ofString "at"), (PySem.Str.ofString "number"), (PySem.Str.ofString "one"), (PySem.Str.ofString "count")] [(PySem.Str.ofString "floor"), (PySem.Str.ofString "sun"), (PySem.Str.ofString "folk")] (defScope x_scorched) := ⟨rfl, rfl, rfl, by decide +kernel, rfl, by decide +kernel, by decide +kernel⟩
theorem ok_scorched (E : Env P w K mg ca) (O_Course_init : OwnI P w K mg base ca 0 6 (PySem.Str.ofString "Course") [(PySem.Str.ofString "self"), (PySem.Str.ofString "floor"), (PySem.Str.ofString "sun"), (PySem.Str.ofString "folk")] [false, false, false] m_Course_init) (O_Course_at : OwnM P w K mg base ca 0 1 (PySem.Str.ofString "at") [(PySem.Str.ofString "self"), (PySem.Str.ofString "many")] [false, false] m_Course_at) (O_need_all : Own P w K mg base ca 5 (PySem.Str.ofString "need_all") [(PySem.Str.ofString "floor"), (PySem.Str.ofString "sun"), (PySem.Str.ofString "folk")] [false, false, false] m_need_all) (O_suns_of : Own P w K mg base ca 3 (PySem.Str.ofString "suns_of") [(PySem.Str.ofString "floor"), (PySem.Str.ofString "sign"), (PySem.Str.ofString "folk")] [false, false, false] m_suns_of) {f : Addr} {fd : FuncData} (F : FnQ K (PySem.Str.ofString "scorched") (PySem.Str.ofString "scorched") x_scorched f fd) : FnOk P w K mg base (L2.CX P w) 8 f fd [(PySem.Str.ofString "floor"), (PySem.Str.ofString "sun"), (PySem.Str.ofString "folk")] (spOf ⟨P, w, K, ca⟩ [false, false, false] m_scorched) := by
  refine d_okD F sc_scorched rfl (by decide) fun cdv A outer s H Ex hr => ?_
  have hu : (cxOf (L2.CX P w) P w K mg base [(PySem.Str.ofString "floor"), (PySem.Str.ofString "sun"), (PySem.Str.ofString "folk"), (PySem.Str.ofString "found"), (PySem.Str.ofString "counts"), (PySem.Str.ofString "at"), (PySem.Str.ofString "number"), (PySem.Str.ofString "one"), (PySem.Str.ofString "count")] (PySem.Str.ofString "scorched") (defScope x_scorched) f cdv A outer s H Ex).A.units + 65 < cLine := hu_room hr
  have hN := sc_scorched.nd
  have tk : Takes (cxOf (L2.CX P w) P w K mg base [(PySem.Str.ofString "floor"), (PySem.Str.ofString "sun"), (PySem.Str.ofString "folk"), (PySem.Str.ofString "found"), (PySem.Str.ofString "counts"), (PySem.Str.ofString "at"), (PySem.Str.ofString "number"), (PySem.Str.ofString "one"), (PySem.Str.ofString "count")] (PySem.Str.ofString "scorched") (defScope x_scorched) f cdv A outer s H Ex) (fun cls d _ H => Ex cls d H) := takes_of rfl rfl rfl rfl
  exact s_cons (s_expr (e_own O_need_all hr (by decide) tk rfl (m_cons (e_rd 0 (pv 0)) (m_cons (e_rd 1 (pv 1)) (m_cons (e_rd 2 (pv 2)) (m_nil))))))
    (s_cons (s_set (i := 3) hN rfl (.inl rfl) (by decide) (e_frz (e_ownI O_Course_init hr (by decide) tk rfl (len_cons (len_cons (len_cons (len_nil)))) (a_cons (e_rd 0 (pv 0)) (a_cons (e_rd 1 (pv 1)) (a_cons (e_rd 2 (pv 2)) (a_nil)))))))
    (s_cons (s_setLc (own := [((PySem.Str.ofString "one"), 7)]) (i := 4) rfl hN rfl rfl (by decide) rfl (i_seq (e_rd 2 (pv 2))) (show BlkOk [(PySem.Str.ofString "floor"), (PySem.Str.ofString "sun"), (PySem.Str.ofString "folk"), (PySem.Str.ofString "found"), (PySem.Str.ofString "counts"), (PySem.Str.ofString "at"), (PySem.Str.ofString "number"), (PySem.Str.ofString "one"), (PySem.Str.ofString "count")] (defScope x_scorched) _ _ from ⟨rfl, by decide +kernel, by decide +kernel, by decide +kernel, by decide +kernel⟩) (fun _ _ _ _ _ => g_name (i := 7) hN rfl (.inl rfl) (show 7 ∉ others 9 [7] from by decide)) (fun _ _ _ _ _ => ts_nil) (fun _ _ _ _ _ => e_lst (a_cons (e_c pe_int fun _ => repI) (a_cons (e_c pe_int fun _ => repI) (a_nil)))))
    (s_cons (s_for (passes_of rfl) rfl (i_rng1 rfl E.range (r_one (e_look (e_bin op_addG pr_tt (e_fld (C := 0) (e_pk 3 (pv 3)) E.cls0 E.na_tail) (e_look (e_fld (C := 0) (e_pk 3 (pv 3)) E.cls0 E.na_turn)))))) (g_name (i := 5) hN rfl (.inl rfl) (by decide)) (s_one (s_for (passes_of rfl) rfl (i_seq (e_own O_suns_of hr (by decide) tk rfl (m_cons (e_rd 0 (pv 0)) (m_cons (e_ix hu (pr_pt 1) (pv 1) (e_look (e_bin op_modG (pr_pt 5) (pv 5) (e_look (e_callB cb_len rfl E.len (by first | rfl | kernel_rfl) (r_one (e_pk 1 (pv 1)))))))) (m_cons (e_ownM (C := 0) O_Course_at hr (by decide) tk rfl (e_rd 3 (pv 3)) (m_cons (e_bin op_addG (pr_pt 5) (pv 5) (e_look (e_c pe_int fun _ => repI))) (m_nil))) (m_nil)))))) (g_name (i := 6) hN rfl (.inl rfl) (by decide)) (s_one (s_aug2 (c := 1) 4 (pv 4) (e_rd 6 (pv 6)) (e_callTy cb_int rfl E.int (by first | rfl | kernel_rfl) (r_one (e_look (e_cmp (op_geC) (pr_pt 5) (pv 5) (e_look (e_fld (C := 0) (e_pk 3 (pv 3)) E.cls0 E.na_tail)) (nomark _))))) pe_int)))))
    (s_one (s_ret (e_lc (own := [((PySem.Str.ofString "count"), 8)]) rfl hN (i_seq (e_rd 4 (pv 4))) (show BlkOk [(PySem.Str.ofString "floor"), (PySem.Str.ofString "sun"), (PySem.Str.ofString "folk"), (PySem.Str.ofString "found"), (PySem.Str.ofString "counts"), (PySem.Str.ofString "at"), (PySem.Str.ofString "number"), (PySem.Str.ofString "one"), (PySem.Str.ofString "count")] (defScope x_scorched) _ _ from ⟨rfl, by decide +kernel, by decide +kernel, by decide +kernel, by decide +kernel⟩) (fun _ _ _ _ _ => g_name (i := 8) hN rfl (.inl rfl) (show 8 ∉ others 9 [8] from by decide)) (fun _ _ _ _ _ => ts_nil) (fun _ _ _ _ _ => e_callTy cb_tuple rfl E.tuple (by first | rfl | kernel_rfl) (r_one (e_pk 8 (pv 8))))))))))
theorem sc_seated : FnScope [(PySem.Str.ofString "floor"), (PySem.Str.ofString "sun"), (PySem.Str.ofString "folk"), (PySem.Str.ofString "many")] [(PySem.Str.ofString "floor"), (PySem.Str.ofString "sun"), (PySem.Str.ofString "folk"), (PySem.Str.ofString "many")] (defScope x_seated) := ⟨rfl, rfl, rfl, by decide +kernel, rfl, by decide +kernel, by decide +kernel⟩
theorem ok_seated (E : Env P w K mg ca) (O_Course_init : OwnI P w K mg base ca 0 6 (PySem.Str.ofString "Course") [(PySem.Str.ofString "self"), (PySem.Str.ofString "floor"), (PySem.Str.ofString "sun"), (PySem.Str.ofString "folk")] [false, false, false] m_Course_init) (O_Course_at : OwnM P w K mg base ca 0 1 (PySem.Str.ofString "at") [(PySem.Str.ofString "self"), (PySem.Str.ofString "many")] [false, false] m_Course_at) (O_need_all : Own P w K mg base ca 5 (PySem.Str.ofString "need_all") [(PySem.Str.ofString "floor"), (PySem.Str.ofString "sun"), (PySem.Str.ofString "folk")] [false, false, false] m_need_all) (O_need_count : Own P w K mg base ca 2 (PySem.Str.ofString "need_count") [(PySem.Str.ofString "number"), (PySem.Str.ofString "low"), (PySem.Str.ofString "high")] [false, false, false] m_need_count) (O_seats_of : Own P w K mg base ca 1 (PySem.Str.ofString "seats_of") [(PySem.Str.ofString "folk")] [false] m_seats_of) {f : Addr} {fd : FuncData} (F : FnQ K (PySem.Str.ofString "seated") (PySem.Str.ofString "seated") x_seated f fd) : FnOk P w K mg base (L2.CX P w) 8 f fd [(PySem.Str.ofString "floor"), (PySem.Str.ofString "sun"), (PySem.Str.ofString "folk"), (PySem.Str.ofString "many")] (spOf ⟨P, w, K, ca⟩ [false, false, false, false] m_seated) := by
  refine d_okD F sc_seated rfl (by decide) fun cdv A outer s H Ex hr => ?_
  have hu : (cxOf (L2.CX P w) P w K mg base [(PySem.Str.ofString "floor"), (PySem.Str.ofString "sun"), (PySem.Str.ofString "folk"), (PySem.Str.ofString "many")] (PySem.Str.ofString "seated") (defScope x_seated) f cdv A outer s H Ex).A.units + 65 < cLine := hu_room hr
  have hN := sc_seated.nd
  have tk : Takes (cxOf (L2.CX P w) P w K mg base [(PySem.Str.ofString "floor"), (PySem.Str.ofString "sun"), (PySem.Str.ofString "folk"), (PySem.Str.ofString "many")] (PySem.Str.ofString "seated") (defScope x_seated) f cdv A outer s H Ex) (fun cls d _ H => Ex cls d H) := takes_of rfl rfl rfl rfl
  exact s_cons (s_expr (e_own O_need_all hr (by decide) tk rfl (m_cons (e_rd 0 (pv 0)) (m_cons (e_rd 1 (pv 1)) (m_cons (e_rd 2 (pv 2)) (m_nil))))))
    (s_cons (s_expr (e_own O_need_count hr (by decide) tk rfl (m_cons (e_rd 3 (pv 3)) (m_cons (e_c pe_int fun _ => repI) (m_cons (e_gI E.MOST_FAR) (m_nil))))))
    (s_one (s_ret (e_own O_seats_of hr (by decide) tk rfl (m_cons (e_ownM (C := 0) O_Course_at hr (by decide) tk rfl (e_frz (e_ownI O_Course_init hr (by decide) tk rfl (len_cons (len_cons (len_cons (len_nil)))) (a_cons (e_rd 0 (pv 0)) (a_cons (e_rd 1 (pv 1)) (a_cons (e_rd 2 (pv 2)) (a_nil)))))) (m_cons (e_rd 3 (pv 3)) (m_nil))) (m_nil))))))
theorem sc__law_lane : FnScope [(PySem.Str.ofString "_law_wide"), (PySem.Str.ofString "_law_high"), (PySem.Str.ofString "_law_sits"), (PySem.Str.ofString "_law_lane_here"), (PySem.Str.ofString "_law_mid"), (PySem.Str.ofString "_law_left"), (PySem.Str.ofString "_law_right"), (PySem.Str.ofString "_law_found"), (PySem.Str.ofString "_law_folk"), (PySem.Str.ofString "_law_due"), (PySem.Str.ofString "_law_told"), (PySem.Str.ofString "_law_k")] [(PySem.Str.ofString "_law_wide"), (PySem.Str.ofString "_law_high"), (PySem.Str.ofString "_law_sits")] (defScope x__law_lane) := ⟨rfl, rfl, rfl, by decide +kernel, rfl, by decide +kernel, by decide +kernel⟩
theorem ok__law_lane (E : Env P w K mg ca) (O__law_alike : Own P w K mg base ca 7 (PySem.Str.ofString "_law_alike") [(PySem.Str.ofString "_law_one"), (PySem.Str.ofString "_law_due")] [false, false] (m__law_alike 6)) (O__law_word : WordK P w K mg base ca 0 (PySem.Str.ofString "_law_word") n__law_word i__law_word (covT cv_ShadeError) h__law_word) (O_paper : Own P w K mg base ca 9 (PySem.Str.ofString "paper") [(PySem.Str.ofString "floor"), (PySem.Str.ofString "sun"), (PySem.Str.ofString "folk")] [false, false, false] m_paper) (O_restless : Own P w K mg base ca 8 (PySem.Str.ofString "restless") [(PySem.Str.ofString "floor"), (PySem.Str.ofString "sun"), (PySem.Str.ofString "folk")] [false, false, false] m_restless) (O_scorched : Own P w K mg base ca 8 (PySem.Str.ofString "scorched") [(PySem.Str.ofString "floor"), (PySem.Str.ofString "sun"), (PySem.Str.ofString "folk")] [false, false, false] m_scorched) (O_seated : Own P w K mg base ca 8 (PySem.Str.ofString "seated") [(PySem.Str.ofString "floor"), (PySem.Str.ofString "sun"), (PySem.Str.ofString "folk"), (PySem.Str.ofString "many")] [false, false, false, false] m_seated) (O_shade : Own P w K mg base ca 5 (PySem.Str.ofString "shade") [(PySem.Str.ofString "floor"), (PySem.Str.ofString "sun"), (PySem.Str.ofString "beat")] [false, false, false] m_shade) {f : Addr} {fd : FuncData} (TF : TbF ca base mg fd.code ((PySem.Str.ofString "_law_lane") ++ PySem.Str.ofString ".<locals>." ++ PySem.Str.ofString "<lambda>")) (F : FnQ K (PySem.Str.ofString "_law_lane") (PySem.Str.ofString "_law_lane") x__law_lane f fd) : FnOk P w K mg base (L2.CX P w) 12 f fd [(PySem.Str.ofString "_law_wide"), (PySem.Str.ofString "_law_high"), (PySem.Str.ofString "_law_sits")] (spOf ⟨P, w, K, ca⟩ [false, false, false] m__law_lane) := by
  refine d_okC F sc__law_lane rfl (by decide) fun A outer s H Ex hr => ?_
  obtain ⟨tbc, tbP, tbC, tbB, tbM, tbU⟩ := TF.ex
  have hu : (cxOf (L2.CX P w) P w K mg base [(PySem.Str.ofString "_law_wide"), (PySem.Str.ofString "_law_high"), (PySem.Str.ofString "_law_sits"), (PySem.Str.ofString "_law_lane_here"), (PySem.Str.ofString "_law_mid"), (PySem.Str.ofString "_law_left"), (PySem.Str.ofString "_law_right"), (PySem.Str.ofString "_law_found"), (PySem.Str.ofString "_law_folk"), (PySem.Str.ofString "_law_due"), (PySem.Str.ofString "_law_told"), (PySem.Str.ofString "_law_k")] (PySem.Str.ofString "_law_lane") (defScope x__law_lane) f fd.code A outer s H Ex).A.units + 65 < cLine := hu_room hr
  have hN := sc__law_lane.nd
  have tk : Takes (cxOf (L2.CX P w) P w K mg base [(PySem.Str.ofString "_law_wide"), (PySem.Str.ofString "_law_high"), (PySem.Str.ofString "_law_sits"), (PySem.Str.ofString "_law_lane_here"), (PySem.Str.ofString "_law_mid"), (PySem.Str.ofString "_law_left"), (PySem.Str.ofString "_law_right"), (PySem.Str.ofString "_law_found"), (PySem.Str.ofString "_law_folk"), (PySem.Str.ofString "_law_due"), (PySem.Str.ofString "_law_told"), (PySem.Str.ofString "_law_k")] (PySem.Str.ofString "_law_lane") (defScope x__law_lane) f fd.code A outer s H Ex) (fun cls d _ H => Ex cls d H) := takes_of rfl rfl rfl rfl
  exact s_cons (s_tup2 rfl hN (i := 3) (j := 4) rfl rfl (by decide) (by decide) (.inr rfl) (.inl rfl) (a_cons (e_tup (a_cons (e_c pe_int fun _ => repI) (a_cons (e_rd 0 (pv 0)) (a_cons (e_tup (a_cons (e_tup (a_cons (e_c pe_int fun _ => repI) (a_cons (e_bin op_divG (pr_pt 0) (pv 0) (e_look (e_c pe_int fun _ => repI))) (a_cons (e_rd 1 (pv 1)) (a_nil))))) (a_nil))) (a_cons (e_tup (a_nil)) (a_nil)))))) (a_cons (e_bin op_divG (pr_pt 0) (pv 0) (e_look (e_c pe_int fun _ => repI))) (a_nil))))
    (s_cons (s_setLc (own := [((PySem.Str.ofString "_law_k"), 11)]) (i := 5) rfl hN rfl rfl (by decide) rfl (i_rng2 rfl E.range (r_two pr_tt (e_callB (cb_max2 rfl) rfl E.max (by first | rfl | kernel_rfl) (r_two pr_tt (e_c pe_int fun _ => repI) (e_look (e_bin op_subG (pr_pt 4) (pv 4) (e_pk 1 (pv 1)))))) (e_pk 4 (pv 4)))) (show BlkOk [(PySem.Str.ofString "_law_wide"), (PySem.Str.ofString "_law_high"), (PySem.Str.ofString "_law_sits"), (PySem.Str.ofString "_law_lane_here"), (PySem.Str.ofString "_law_mid"), (PySem.Str.ofString "_law_left"), (PySem.Str.ofString "_law_right"), (PySem.Str.ofString "_law_found"), (PySem.Str.ofString "_law_folk"), (PySem.Str.ofString "_law_due"), (PySem.Str.ofString "_law_told"), (PySem.Str.ofString "_law_k")] (defScope x__law_lane) _ _ from ⟨rfl, by decide +kernel, by decide +kernel, by decide +kernel, by decide +kernel⟩) (fun _ _ _ _ _ => g_name (i := 11) hN rfl (.inl rfl) (show 11 ∉ others 12 [11] from by decide)) (fun _ _ _ _ _ => ts_nil) (fun _ _ _ _ _ => e_tup (a_cons (e_c pe_int fun _ => repI) (a_cons (e_rd 11 (pv 11)) (a_nil)))))
    (s_cons (s_setLc (own := [((PySem.Str.ofString "_law_k"), 11)]) (i := 6) rfl hN rfl rfl (by decide) rfl (i_rng2 rfl E.range (r_two pr_tt (e_bin op_addG (pr_pt 4) (pv 4) (e_look (e_c pe_int fun _ => repI))) (e_look (e_callB (cb_min2 rfl) rfl E.min (by first | rfl | kernel_rfl) (r_two (pr_pt 0) (pv 0) (e_look (e_bin op_addG pr_tt (e_bin op_addG (pr_pt 4) (pv 4) (e_pk 1 (pv 1))) (e_look (e_c pe_int fun _ => repI))))))))) (show BlkOk [(PySem.Str.ofString "_law_wide"), (PySem.Str.ofString "_law_high"), (PySem.Str.ofString "_law_sits"), (PySem.Str.ofString "_law_lane_here"), (PySem.Str.ofString "_law_mid"), (PySem.Str.ofString "_law_left"), (PySem.Str.ofString "_law_right"), (PySem.Str.ofString "_law_found"), (PySem.Str.ofString "_law_folk"), (PySem.Str.ofString "_law_due"), (PySem.Str.ofString "_law_told"), (PySem.Str.ofString "_law_k")] (defScope x__law_lane) _ _ from ⟨rfl, by decide +kernel, by decide +kernel, by decide +kernel, by decide +kernel⟩) (fun _ _ _ _ _ => g_name (i := 11) hN rfl (.inl rfl) (show 11 ∉ others 12 [11] from by decide)) (fun _ _ _ _ _ => ts_nil) (fun _ _ _ _ _ => e_tup (a_cons (e_c pe_int fun _ => repI) (a_cons (e_rd 11 (pv 11)) (a_nil)))))
    (s_cons (s_set (i := 7) hN rfl (.inl rfl) (by decide) (e_lst (a_cons (e_own O_shade hr (by decide) tk rfl (m_cons (e_rd 3 (pv 3)) (m_cons (e_c pe_str fun _ => repS) (m_cons (e_c pe_int fun _ => repI) (m_nil))))) (a_cons (e_own O_shade hr (by decide) tk rfl (m_cons (e_rd 3 (pv 3)) (m_cons (e_c pe_str fun _ => repS) (m_cons (e_c pe_int fun _ => repI) (m_nil))))) (a_cons (e_own O_shade hr (by decide) tk rfl (m_cons (e_rd 3 (pv 3)) (m_cons (e_c pe_str fun _ => repS) (m_cons (e_c pe_int fun _ => repI) (m_nil))))) (a_cons (e_own O_shade hr (by decide) tk rfl (m_cons (e_rd 3 (pv 3)) (m_cons (e_c pe_str fun _ => repS) (m_cons (e_c pe_int fun _ => repI) (m_nil))))) (a_nil)))))))
    (s_cons (s_if (t_not (t_val (e_look (e_own O__law_alike hr (by decide) tk rfl (m_cons (e_rd 7 (pv 7)) (m_cons (e_frz (e_lst (a_cons (e_rd 5 (pv 5)) (a_cons (e_rd 6 (pv 6)) (a_cons (e_lst (a_nil)) (a_cons (e_lst (a_nil)) (a_nil))))))) (m_nil))))))) (s_one (s_ret (e_c pe_bl fun _ => repB))) (s_nil))
    (s_cons (s_set (i := 8) hN rfl (.inr rfl) (by decide) (e_tup (a_cons (e_tup (a_cons (e_tup (a_cons (e_c pe_int fun _ => repI) (a_cons (e_rd 2 (pv 2)) (a_nil)))) (a_cons (e_c pe_str fun _ => repS) (a_nil)))) (a_nil))))
    (s_cons (s_if (PW.pt (t_or (t_cmp (op_eqC (Nat.lt_of_succ_lt hu)) (pr_pt 2) (pv 2) (e_pk 4 (pv 4)) (nomark _)) (pw_or1 (t_not (t_val (e_look (e_own O__law_alike hr (by decide) tk rfl (m_cons (e_own O_seated hr (by decide) tk rfl (m_cons (e_rd 3 (pv 3)) (m_cons (e_c pe_str fun _ => repS) (m_cons (e_rd 8 (pv 8)) (m_cons (e_bin op_powG pr_tt (e_c pe_int fun _ => repI) (e_look (e_c pe_int fun _ => repI))) (m_nil)))))) (m_cons (e_tup (a_cons (e_tup (a_cons (e_c pe_int fun _ => repI) (a_cons (e_rd 2 (pv 2)) (a_nil)))) (a_nil))) (m_nil)))))))))) (s_one (s_ret (e_cmp (op_eqC (Nat.lt_of_succ_lt hu)) (pr_pt 2) (pv 2) (e_pk 4 (pv 4)) (nomark _)))) (s_nil))
    (s_cons (s_set (i := 9) hN rfl (.inl rfl) (by decide) (e_lst (a_cons (e_tup (a_cons (e_tup (a_cons (e_c pe_int fun _ => repI) (a_cons (e_rd 2 (pv 2)) (a_nil)))) (a_nil))) (a_cons (e_tup (a_cons (e_ix hu (pr_pt 5) (pv 5) (e_look (e_negc))) (a_nil))) (a_cons (e_tup (a_cons (e_ix hu (pr_pt 6) (pv 6) (e_look (e_c pe_int fun _ => repI))) (a_nil))) (a_nil))))))
    (s_cons (s_if (t_cmp (op_ltC) (pr_pt 2) (pv 2) (e_pk 4 (pv 4)) (nomark _)) (s_one (s_set (i := 9) hN rfl (.inl rfl) (by decide) (e_lst (a_cons (e_tup (a_cons (e_tup (a_cons (e_c pe_int fun _ => repI) (a_cons (e_rd 2 (pv 2)) (a_nil)))) (a_nil))) (a_cons (e_tup (a_cons (e_ite (t_cmp ((op_inE hu)) pr_tt (e_tup (a_cons (e_c pe_int fun _ => repI) (a_cons (e_rd 2 (pv 2)) (a_nil)))) (e_pk 5 (pv 5)) (by with_unfolding_all rfl)) (e_tup (a_cons (e_c pe_int fun _ => repI) (a_cons (e_rd 2 (pv 2)) (a_nil)))) (e_ix hu (pr_pt 5) (pv 5) (e_look (e_c pe_int fun _ => repI)))) (a_nil))) (a_cons (e_tup (a_cons (e_ix hu (pr_pt 6) (pv 6) (e_look (e_c pe_int fun _ => repI))) (a_nil))) (a_nil))))))) (s_nil))
    (s_cons (s_setLc (own := [((PySem.Str.ofString "_law_k"), 11)]) (i := 10) rfl hN rfl rfl (by decide) rfl (i_rng1 rfl E.range (r_one (e_look (e_c pe_int fun _ => repI)))) (show BlkOk [(PySem.Str.ofString "_law_wide"), (PySem.Str.ofString "_law_high"), (PySem.Str.ofString "_law_sits"), (PySem.Str.ofString "_law_lane_here"), (PySem.Str.ofString "_law_mid"), (PySem.Str.ofString "_law_left"), (PySem.Str.ofString "_law_right"), (PySem.Str.ofString "_law_found"), (PySem.Str.ofString "_law_folk"), (PySem.Str.ofString "_law_due"), (PySem.Str.ofString "_law_told"), (PySem.Str.ofString "_law_k")] (defScope x__law_lane) _ _ from ⟨rfl, by decide +kernel, by decide +kernel, by decide +kernel, by decide +kernel⟩) (fun _ _ _ _ _ => g_name (i := 11) hN rfl (.inl rfl) (show 11 ∉ others 12 [11] from by decide)) (fun _ _ _ _ _ => ts_nil) (fun _ _ _ _ _ => e_own O_seated hr (by decide) L2.takes0 rfl (m_cons (e_rd 3 (pv 3)) (m_cons (e_c pe_str fun _ => repS) (m_cons (e_rd 8 (pv 8)) (m_cons (e_rd 11 (pv 11)) (m_nil)))))))
    (s_cons (s_if (PW.pt (t_or (t_not (t_val (e_look (e_own O__law_alike hr (by decide) tk rfl (m_cons (e_rd 10 (pv 10)) (m_cons (e_rd 9 (pv 9)) (m_nil))))))) (pw_or1 (t_cmp (op_neC (Nat.lt_of_succ_lt hu)) pr_tt (e_own O_restless hr (by decide) tk rfl (m_cons (e_rd 3 (pv 3)) (m_cons (e_c pe_str fun _ => repS) (m_cons (e_rd 8 (pv 8)) (m_nil))))) (e_look (e_lst (a_cons (e_c pe_int fun _ => repI) (a_nil)))) (nomark _))))) (s_one (s_ret (e_c pe_bl fun _ => repB))) (s_nil))
    (s_cons (s_if (PW.pt (t_or (t_not (t_val (e_look (e_own O__law_alike hr (by decide) tk rfl (m_cons (e_ix hu pr_tt (e_ix hu pr_tt (e_own O_scorched hr (by decide) tk rfl (m_cons (e_rd 3 (pv 3)) (m_cons (e_c pe_str fun _ => repS) (m_cons (e_rd 8 (pv 8)) (m_nil))))) (e_look (e_c pe_int fun _ => repI))) (e_look (e_c pe_int fun _ => repI))) (m_cons (e_c pe_int fun _ => repI) (m_nil))))))) (pw_or1 (t_not (t_val (e_look (e_own O__law_alike hr (by decide) tk rfl (m_cons (e_own O_scorched hr (by decide) tk rfl (m_cons (e_rd 3 (pv 3)) (m_cons (e_c pe_str fun _ => repS) (m_cons (e_rd 8 (pv 8)) (m_nil))))) (m_cons (e_lst (a_cons (e_tup (a_cons (e_c pe_int fun _ => repI) (a_cons (e_c pe_int fun _ => repI) (a_nil)))) (a_nil))) (m_nil)))))))))) (s_one (s_ret (e_c pe_bl fun _ => repB))) (s_nil))
    (s_one (s_ret (e_cmp (op_eqC (Nat.lt_of_succ_lt hu)) pr_tt (e_word (j := 9) O__law_word (hr.mono (by decide)) (by decide) tbB tbC tbM tbU (lamS_by (by kernel_rfl)) (fun A outer s H E f c' hr => e_own O_paper hr (by decide) takes_lam rfl (m_cons (e_rd 3 (pv 3)) (m_cons (e_c pe_str fun _ => repS) (m_cons (e_rd 8 (pv 8)) (m_nil)))))) (e_look (e_tup (a_cons (e_c pe_str fun _ => repS) (a_cons (e_c pe_int fun _ => repI) (a_nil))))) (nomark _)))))))))))))))
theorem sc__law_taken : FnScope [(PySem.Str.ofString "_law_row"), (PySem.Str.ofString "_law_many"), (PySem.Str.ofString "_law_found"), (PySem.Str.ofString "_law_cell")] [(PySem.Str.ofString "_law_row"), (PySem.Str.ofString "_law_many")] (defScope x__law_taken) := ⟨rfl, rfl, rfl, by decide +kernel, rfl, by decide +kernel, by decide +kernel⟩
theorem ok__law_taken (E : Env P w K mg ca)  {f : Addr} {fd : FuncData} (F : FnQ K (PySem.Str.ofString "_law_taken") (PySem.Str.ofString "_law_taken") x__law_taken f fd) : FnOk P w K mg base (L2.CX P w) 1 f fd [(PySem.Str.ofString "_law_row"), (PySem.Str.ofString "_law_many")] (spOf ⟨P, w, K, ca⟩ [true, false] m__law_taken) := by
  refine d_okD F sc__law_taken rfl (by decide) fun cdv A outer s H Ex hr => ?_
  have hu : (cxOf (L2.CX P w) P w K mg base [(PySem.Str.ofString "_law_row"), (PySem.Str.ofString "_law_many"), (PySem.Str.ofString "_law_found"), (PySem.Str.ofString "_law_cell")] (PySem.Str.ofString "_law_taken") (defScope x__law_taken) f cdv A outer s H Ex).A.units + 65 < cLine := hu_room hr
  have hN := sc__law_taken.nd
  have tk : Takes (cxOf (L2.CX P w) P w K mg base [(PySem.Str.ofString "_law_row"), (PySem.Str.ofString "_law_many"), (PySem.Str.ofString "_law_found"), (PySem.Str.ofString "_law_cell")] (PySem.Str.ofString "_law_taken") (defScope x__law_taken) f cdv A outer s H Ex) (fun cls d _ H => Ex cls d H) := takes_of rfl rfl rfl rfl
  exact s_cons (s_if (t_cmp (op_gtC) pr_tt (e_ix hu (pr_pt 0) (pv 0) (e_look (e_c pe_int fun _ => repI))) (e_look (e_c pe_int fun _ => repI)) (nomark _)) (s_cons (s_set (i := 2) hN rfl (.inl rfl) (by decide) (e_bin op_modG pr_tt (e_ix hu (pr_pt 0) (pv 0) (e_look (e_c pe_int fun _ => repI))) (e_pk 1 (pv 1))))
    (s_cons (s_asg (e_bin op_divG pr_tt (e_ix hu (pr_pt 0) (pv 0) (e_look (e_c pe_int fun _ => repI))) (e_pk 1 (pv 1))) (g_sub 0 hu (pv 0) (e_c pe_int fun _ => repI)))
    (s_one (s_ret (e_rd 2 (pv 2)))))) (s_nil))
    (s_cons (s_asg (e_bin op_addG pr_tt (e_ix hu (pr_pt 0) (pv 0) (e_look (e_c pe_int fun _ => repI))) (e_look (e_c pe_int fun _ => repI))) (g_sub 0 hu (pv 0) (e_c pe_int fun _ => repI)))
    (s_cons (s_if (t_cmp (op_gtC) pr_tt (e_ix hu (pr_pt 0) (pv 0) (e_look (e_c pe_int fun _ => repI))) (e_look (e_callB cb_len rfl E.len (by first | rfl | kernel_rfl) (r_one (e_look (e_ix hu (pr_pt 0) (pv 0) (e_look (e_c pe_int fun _ => repI))))))) (nomark _)) (s_cons (s_asg (e_bin op_modG pr_tt (e_bin op_addG pr_tt (e_bin op_mulG pr_tt (e_ix hu (pr_pt 0) (pv 0) (e_look (e_c pe_int fun _ => repI))) (e_look (e_c pe_int fun _ => repI))) (e_look (e_c pe_int fun _ => repI))) (e_look (e_c pe_int fun _ => repI))) (g_sub 0 hu (pv 0) (e_c pe_int fun _ => repI)))
    (s_one (s_ret (e_bin op_modG pr_tt (e_bin op_divG pr_tt (e_ix hu (pr_pt 0) (pv 0) (e_look (e_c pe_int fun _ => repI))) (e_look (e_c pe_int fun _ => repI))) (e_pk 1 (pv 1)))))) (s_nil))
    (s_cons (s_set (i := 3) hN rfl (.inl rfl) (by decide) (e_ix hu pr_tt (e_ix hu (pr_pt 0) (pv 0) (e_look (e_c pe_int fun _ => repI))) (e_look (e_bin op_subG pr_tt (e_ix hu (pr_pt 0) (pv 0) (e_look (e_c pe_int fun _ => repI))) (e_look (e_c pe_int fun _ => repI))))))
    (s_cons (s_asg (e_bin op_modG pr_tt (e_bin op_addG pr_tt (e_bin op_addG pr_tt (e_bin op_mulG pr_tt (e_ix hu (pr_pt 0) (pv 0) (e_look (e_c pe_int fun _ => repI))) (e_look (e_c pe_int fun _ => repI))) (e_pk 3 (pv 3))) (e_look (e_c pe_int fun _ => repI))) (e_look (e_c pe_int fun _ => repI))) (g_sub 0 hu (pv 0) (e_c pe_int fun _ => repI)))
    (s_cons (s_if (t_cmp (op_geC) (pr_pt 3) (pv 3) (e_look (e_bin op_powG pr_tt (e_c pe_int fun _ => repI) (e_look (e_c pe_int fun _ => repI)))) (nomark _)) (s_one (s_asg (e_bin op_divG (pr_pt 3) (pv 3) (e_pk 1 (pv 1))) (g_sub 0 hu (pv 0) (e_c pe_int fun _ => repI)))) (s_nil))
    (s_one (s_ret (e_bin op_modG (pr_pt 3) (pv 3) (e_pk 1 (pv 1))))))))))
theorem sc_law : FnScope [(PySem.Str.ofString "_law_script"), (PySem.Str.ofString "_law_row"), (PySem.Str.ofString "_law_wide"), (PySem.Str.ofString "_law_floor"), (PySem.Str.ofString "_law_last"), (PySem.Str.ofString "_law_clothes"), (PySem.Str.ofString "_law_k")] [(PySem.Str.ofString "_law_script")] (defScope x_law) := ⟨rfl, rfl, rfl, by decide +kernel, rfl, by decide +kernel, by decide +kernel⟩
theorem ok_law (E : Env P w K mg ca) (O__law_alike : Own P w K mg base ca 7 (PySem.Str.ofString "_law_alike") [(PySem.Str.ofString "_law_one"), (PySem.Str.ofString "_law_due")] [false, false] (m__law_alike 6)) (O__law_cloth : Own P w K mg base ca 10 (PySem.Str.ofString "_law_cloth") [(PySem.Str.ofString "_law_cell")] [false] m__law_cloth) (O__law_lane : Own P w K mg base ca 12 (PySem.Str.ofString "_law_lane") [(PySem.Str.ofString "_law_wide"), (PySem.Str.ofString "_law_high"), (PySem.Str.ofString "_law_sits")] [false, false, false] m__law_lane) (O__law_taken : Own P w K mg base ca 1 (PySem.Str.ofString "_law_taken") [(PySem.Str.ofString "_law_row"), (PySem.Str.ofString "_law_many")] [true, false] m__law_taken) (O_awnings : Own P w K mg base ca 9 (PySem.Str.ofString "awnings") [(PySem.Str.ofString "floor"), (PySem.Str.ofString "sun"), (PySem.Str.ofString "folk"), (PySem.Str.ofString "most")] [false, false, false, false] m_awnings) (O_parting : Own P w K mg base ca 8 (PySem.Str.ofString "parting") [(PySem.Str.ofString "floor"), (PySem.Str.ofString "sun"), (PySem.Str.ofString "one"), (PySem.Str.ofString "other")] [false, false, false, false] m_parting) {f : Addr} {fd : FuncData} (F : FnQ K (PySem.Str.ofString "law") (PySem.Str.ofString "law") x_law f fd) : FnOk P w K mg base (L2.CX P w) 13 f fd [(PySem.Str.ofString "_law_script")] (spOf ⟨P, w, K, ca⟩ [false] m_law) := by
  refine d_okD F sc_law rfl (by decide) fun cdv A outer s H Ex hr => ?_
  have hu : (cxOf (L2.CX P w) P w K mg base [(PySem.Str.ofString "_law_script"), (PySem.Str.ofString "_law_row"), (PySem.Str.ofString "_law_wide"), (PySem.Str.ofString "_law_floor"), (PySem.Str.ofString "_law_last"), (PySem.Str.ofString "_law_clothes"), (PySem.Str.ofString "_law_k")] (PySem.Str.ofString "law") (defScope x_law) f cdv A outer s H Ex).A.units + 65 < cLine := hu_room hr
  have hN := sc_law.nd
  have tk : Takes (cxOf (L2.CX P w) P w K mg base [(PySem.Str.ofString "_law_script"), (PySem.Str.ofString "_law_row"), (PySem.Str.ofString "_law_wide"), (PySem.Str.ofString "_law_floor"), (PySem.Str.ofString "_law_last"), (PySem.Str.ofString "_law_clothes"), (PySem.Str.ofString "_law_k")] (PySem.Str.ofString "law") (defScope x_law) f cdv A outer s H Ex) (fun cls d _ H => Ex cls d H) := takes_of rfl rfl rfl rfl
  exact s_cons (s_set (i := 1) hN rfl (.inl rfl) (by decide) (e_lst (a_cons (e_rd 0 (pv 0)) (a_cons (e_c pe_int fun _ => repI) (a_cons (e_c pe_int fun _ => repI) (a_cons (e_c pe_int fun _ => repI) (a_nil)))))))
    (s_cons (s_set (i := 2) hN rfl (.inl rfl) (by decide) (e_bin op_addG pr_tt (e_c pe_int fun _ => repI) (e_look (e_own O__law_taken hr (by decide) tk rfl (m_ref 1 (pv 1) (m_cons (e_c pe_int fun _ => repI) (m_nil)))))))
    (s_cons (s_if (t_not (t_val (e_look (e_own O__law_lane hr (by decide) tk rfl (m_cons (e_rd 2 (pv 2)) (m_cons (e_bin op_addG pr_tt (e_c pe_int fun _ => repI) (e_look (e_own O__law_taken hr (by decide) tk rfl (m_ref 1 (pv 1) (m_cons (e_c pe_int fun _ => repI) (m_nil)))))) (m_cons (e_own O__law_taken hr (by decide) tk rfl (m_ref 1 (pv 1) (m_cons (e_rd 2 (pv 2)) (m_nil)))) (m_nil)))))))) (s_one (s_ret (e_c pe_bl fun _ => repB))) (s_nil))
    (s_cons (s_set (i := 3) hN rfl (.inl rfl) (by decide) (e_tup (a_cons (e_c pe_int fun _ => repI) (a_cons (e_c pe_int fun _ => repI) (a_cons (e_tup (a_nil)) (a_cons (e_tup (a_cons (e_tup (a_cons (e_c pe_int fun _ => repI) (a_cons (e_c pe_int fun _ => repI) (a_nil)))) (a_cons (e_tup (a_cons (e_c pe_int fun _ => repI) (a_cons (e_c pe_int fun _ => repI) (a_nil)))) (a_nil)))) (a_nil)))))))
    (s_cons (s_if (t_not (t_val (e_look (e_own O__law_alike hr (by decide) tk rfl (m_cons (e_own O_parting hr (by decide) tk rfl (m_cons (e_rd 3 (pv 3)) (m_cons (e_c pe_str fun _ => repS) (m_cons (e_c pe_str fun _ => repS) (m_cons (e_c pe_str fun _ => repS) (m_nil)))))) (m_cons (e_tup (a_cons (e_c pe_int fun _ => repI) (a_cons (e_tup (a_cons (e_c pe_int fun _ => repI) (a_cons (e_c pe_int fun _ => repI) (a_nil)))) (a_nil)))) (m_nil))))))) (s_one (s_ret (e_c pe_bl fun _ => repB))) (s_nil))
    (s_cons (s_if (t_not (t_val (e_look (e_own O__law_alike hr (by decide) tk rfl (m_cons (e_own O_parting hr (by decide) tk rfl (m_cons (e_rd 3 (pv 3)) (m_cons (e_c pe_str fun _ => repS) (m_cons (e_c pe_str fun _ => repS) (m_cons (e_c pe_str fun _ => repS) (m_nil)))))) (m_cons (e_tup (a_cons (e_c pe_int fun _ => repI) (a_cons (e_tup (a_cons (e_c pe_int fun _ => repI) (a_cons (e_c pe_int fun _ => repI) (a_nil)))) (a_nil)))) (m_nil))))))) (s_one (s_ret (e_c pe_bl fun _ => repB))) (s_nil))
    (s_cons (s_set (i := 4) hN rfl (.inr rfl) (by decide) (e_tup (a_cons (e_own O__law_taken hr (by decide) tk rfl (m_ref 1 (pv 1) (m_cons (e_c pe_int fun _ => repI) (m_nil)))) (a_cons (e_own O__law_taken hr (by decide) tk rfl (m_ref 1 (pv 1) (m_cons (e_c pe_int fun _ => repI) (m_nil)))) (a_nil)))))
    (s_cons (s_set (i := 5) hN rfl (.inl rfl) (by decide) (e_callTy cb_tuple rfl E.tuple (by first | rfl | kernel_rfl) (r_one (e_look (e_lc (own := [((PySem.Str.ofString "_law_k"), 6)]) rfl hN (i_rng1 rfl E.range (r_one (e_look (e_c pe_int fun _ => repI)))) (show BlkOk [(PySem.Str.ofString "_law_script"), (PySem.Str.ofString "_law_row"), (PySem.Str.ofString "_law_wide"), (PySem.Str.ofString "_law_floor"), (PySem.Str.ofString "_law_last"), (PySem.Str.ofString "_law_clothes"), (PySem.Str.ofString "_law_k")] (defScope x_law) _ _ from ⟨rfl, by decide +kernel, by decide +kernel, by decide +kernel, by decide +kernel⟩) (fun _ _ _ _ _ => g_name (i := 6) hN rfl (.inl rfl) (show 6 ∉ others 7 [6] from by decide)) (fun _ _ _ _ _ => ts_one (t_cmp (op_neC (Nat.lt_of_succ_lt hu)) pr_tt (e_tup (a_cons (e_bin op_divG (pr_pt 6) (pv 6) (e_look (e_c pe_int fun _ => repI))) (a_cons (e_bin op_modG (pr_pt 6) (pv 6) (e_look (e_c pe_int fun _ => repI))) (a_nil)))) (e_pk 4 (pv 4)) (nomark _))) (fun _ _ _ _ _ => e_tup (a_cons (e_bin op_divG (pr_pt 6) (pv 6) (e_look (e_c pe_int fun _ => repI))) (a_cons (e_bin op_modG (pr_pt 6) (pv 6) (e_look (e_c pe_int fun _ => repI))) (a_nil)))))))))
    (s_cons (s_if (t_cmp (op_neC (Nat.lt_of_succ_lt hu)) pr_tt (e_own O_awnings hr (by decide) tk rfl (m_cons (e_tup (a_cons (e_c pe_int fun _ => repI) (a_cons (e_c pe_int fun _ => repI) (a_cons (e_tup (a_nil)) (a_cons (e_rd 5 (pv 5)) (a_nil)))))) (m_cons (e_c pe_str fun _ => repS) (m_cons (e_tup (a_cons (e_tup (a_cons (e_rd 4 (pv 4)) (a_cons (e_c pe_str fun _ => repS) (a_nil)))) (a_nil))) (m_cons (e_c pe_int fun _ => repI) (m_nil)))))) (e_look (e_tup (a_cons (e_rd 4 (pv 4)) (a_nil)))) (nomark _)) (s_one (s_ret (e_c pe_bl fun _ => repB))) (s_nil))
    (s_one (s_ret (e_own O__law_cloth hr (by decide) tk rfl (m_cons (e_rd 4 (pv 4)) (m_nil)))))))))))))
theorem sc_InSun_init : FnScope [(PySem.Str.ofString "self"), (PySem.Str.ofString "beat")] [(PySem.Str.ofString "self"), (PySem.Str.ofString "beat")] (defScope x_InSun_init) := ⟨rfl, rfl, rfl, by decide +kernel, rfl, by decide +kernel, by decide +kernel⟩
theorem xok_InSun (E : Env P w K mg ca) {f : Addr} {fd : FuncData} (F : FnQ K "__init__" "InSun.__init__" x_InSun_init f fd) : FnOk P w K mg base (L2.CX P w) 1 f fd [(PySem.Str.ofString "self"), (PySem.Str.ofString "beat")] (spX K [(PySem.Str.ofString "beat")]) :=
  d_okX1 (m := (PySem.Str.ofString "in the sun")) F sc_InSun_init rfl fun cdv A outer s H Ex => pss_cons (ps_expr (pe_sup E.sup E.gx_ShadeError (pa_cons (pv 0) (pa_cons pe_str pa_nil)))) (pss_one (ps_ost (pv 0) (pv 1)))
end
end G

set_option Elab.async false
set_option linter.all false
set_option maxRecDepth 100000
set_option maxHeartbeats 0
namespace G
open PySem PySem.Spec PyProof.Rows L2 PF
def qs : List Str := [((PySem.Str.ofString "seat_for") ++ PySem.Str.ofString ".<locals>." ++ PySem.Str.ofString "<lambda>"), ((PySem.Str.ofString "_law_lane") ++ PySem.Str.ofString ".<locals>." ++ PySem.Str.ofString "<lambda>")]
def tbs (K : PySem.W.Frag) : List (Addr × Str) := (tf.map fun p => (He.cT K p).2).zip qs
theorem tbs_fst (K : PySem.W.Frag) : (tbs K).map (·.1) = tf.map fun p => (He.cT K p).2 := List.map_fst_zip (by rw [List.length_map]; decide)
/-- a def of tf: its code object, its table -/
theorem tbF_of {K : PySem.W.Frag} {base : Heap} {mg : Str → Option Value} {x qual : Str} {params : Arguments} {body : List Stmt} {scope : Scope} {fd : FuncData} (F : FunD K x qual params body scope [] [] (He.ga K x) fd) (hn : (tf.map fun p => (He.cT K p).2).Nodup)
    (TB : ∀ p ∈ tf.map (He.cT K), LamX.TabB base mg p.1 p.2) {at_ : Nat → Addr} (i : Nat) (hi : tf[i]? = some (x, none)) {q : Str} (hq : qs[i]? = some q) : TbF ⟨at_, tbs K, none⟩ base mg fd.code q := by
  obtain ⟨oc, od, dV, kV, doc, pm, an, cdv, ct, osl, rfl, lk, hcd, _, _⟩ := F.ex
  obtain ⟨c, rfl⟩ := He.codeIn_ref hcd
  have e1 : He.codeOf K (x, none) = c := He.codeOf_eq (p := (x, none)) lk rfl
  have hm : He.cT K (x, none) ∈ tf.map (He.cT K) := List.mem_map_of_mem (List.mem_of_getElem? hi)
  have hz : (tbs K)[i]? = some ((He.cT K (x, none)).2, q) := by
    unfold tbs
    rw [List.getElem?_zip_eq_some]
    exact ⟨by rw [List.getElem?_map, hi]; rfl, hq⟩
  refine ⟨c, (He.cT K (x, none)).2, rfl, ?_, List.mem_of_getElem? hz, fun p hp e => ?_⟩
  · have := TB _ hm
    rwa [show (He.cT K (x, none)).1 = c from e1] at this
  · obtain ⟨j, hj⟩ := List.mem_iff_getElem?.mp hp
    have nd : ((tbs K).map (·.1)).Nodup := by rw [tbs_fst]; exact hn
    have h1 : ((tbs K).map (·.1))[j]? = some p.1 := by rw [List.getElem?_map, hj]; rfl
    have h2 : ((tbs K).map (·.1))[i]? = some p.1 := by rw [List.getElem?_map, hz, e]; rfl
    have hji : j = i := by
      have hjl := (List.getElem?_eq_some_iff.mp h1).1
      exact (List.getElem?_inj hjl nd).mp (h1.trans h2.symm)
    rw [hji, hz] at hj
    exact (Option.some.inj hj).symm
theorem facts {P : Program} {w : World} {K : PySem.W.Frag} {h : Heap} {mg : Str → Option Value} {f : Addr} (X : K.In h) (G : h.Ns mainGlobals mg) (hfa : mg (PySem.Str.ofString "law") = some (.ref f)) (c : He.SaysX fa fn ts tf ex w h K) :
    ∃ fd : FuncData, (∀ (s : Shared) (v : Value), BindsTo s fd ⟨[v], []⟩ [((PySem.Str.ofString "_law_script"), v)]) ∧ ∀ base : Heap, K.In base → base.Ns mainGlobals mg → (∀ p ∈ tf.map (He.cT K), LamX.TabB base mg p.1 p.2) → FnOk P w K mg base (L2.CX P w) 13 f fd [(PySem.Str.ofString "_law_script")] (spOf ⟨P, w, K, ⟨atf K, tbs K, none⟩⟩ [false] m_law) := by
  obtain ⟨fd__law_alike, F__law_alike⟩ := c.t.d.def_ 0 (d := dd__law_alike) rfl
  have gl__law_alike : mg (PySem.Str.ofString "_law_alike") = some (.ref (He.ga K (PySem.Str.ofString "_law_alike"))) := He.glo_ok X G (c.t.d.fact 0 (f := .glo (PySem.Str.ofString "_law_alike")) rfl)
  have bd__law_alike : Binds K fd__law_alike [(PySem.Str.ofString "_law_one"), (PySem.Str.ofString "_law_due")] [] := FunD.bindsN F__law_alike fun _ _ _ _ _ _ us hl => match us, hl with | [_, _], _ => rfl
  obtain ⟨fd_all_cells, F_all_cells⟩ := c.t.d.def_ 1 (d := dd_all_cells) rfl
  have gl_all_cells : mg (PySem.Str.ofString "all_cells") = some (.ref (He.ga K (PySem.Str.ofString "all_cells"))) := He.glo_ok X G (c.t.d.fact 1 (f := .glo (PySem.Str.ofString "all_cells")) rfl)
  have bd_all_cells : Binds K fd_all_cells [(PySem.Str.ofString "floor")] [] := FunD.bindsN F_all_cells fun _ _ _ _ _ _ us hl => match us, hl with | [_], _ => rfl
  obtain ⟨fd_chosen, F_chosen⟩ := c.t.d.def_ 2 (d := dd_chosen) rfl
  have gl_chosen : mg (PySem.Str.ofString "chosen") = some (.ref (He.ga K (PySem.Str.ofString "chosen"))) := He.glo_ok X G (c.t.d.fact 2 (f := .glo (PySem.Str.ofString "chosen")) rfl)
  have bd_chosen : Binds K fd_chosen [(PySem.Str.ofString "cells"), (PySem.Str.ofString "size")] [] := FunD.bindsN F_chosen fun _ _ _ _ _ _ us hl => match us, hl with | [_, _], _ => rfl
  obtain ⟨fd_far_from, F_far_from⟩ := c.t.d.def_ 3 (d := dd_far_from) rfl
  have gl_far_from : mg (PySem.Str.ofString "far_from") = some (.ref (He.ga K (PySem.Str.ofString "far_from"))) := He.glo_ok X G (c.t.d.fact 3 (f := .glo (PySem.Str.ofString "far_from")) rfl)
  have bd_far_from : Binds K fd_far_from [(PySem.Str.ofString "one"), (PySem.Str.ofString "other")] [] := FunD.bindsN F_far_from fun _ _ _ _ _ _ us hl => match us, hl with | [_, _], _ => rfl
  obtain ⟨fd_seat_for, F_seat_for⟩ := c.t.d.def_ 4 (d := dd_seat_for) rfl
  have gl_seat_for : mg (PySem.Str.ofString "seat_for") = some (.ref (He.ga K (PySem.Str.ofString "seat_for"))) := He.glo_ok X G (c.t.d.fact 4 (f := .glo (PySem.Str.ofString "seat_for")) rfl)
  have bd_seat_for : Binds K fd_seat_for [(PySem.Str.ofString "rule"), (PySem.Str.ofString "cell"), (PySem.Str.ofString "free")] [] := FunD.bindsN F_seat_for fun _ _ _ _ _ _ us hl => match us, hl with | [_, _, _], _ => rfl
  obtain ⟨fd_shaded, F_shaded⟩ := c.t.d.def_ 5 (d := dd_shaded) rfl
  have gl_shaded : mg (PySem.Str.ofString "shaded") = some (.ref (He.ga K (PySem.Str.ofString "shaded"))) := He.glo_ok X G (c.t.d.fact 5 (f := .glo (PySem.Str.ofString "shaded")) rfl)
  have bd_shaded : Binds K fd_shaded [(PySem.Str.ofString "floor"), (PySem.Str.ofString "sign")] [] := FunD.bindsN F_shaded fun _ _ _ _ _ _ us hl => match us, hl with | [_, _], _ => rfl
  obtain ⟨fd_moved, F_moved⟩ := c.t.d.def_ 6 (d := dd_moved) rfl
  have gl_moved : mg (PySem.Str.ofString "moved") = some (.ref (He.ga K (PySem.Str.ofString "moved"))) := He.glo_ok X G (c.t.d.fact 6 (f := .glo (PySem.Str.ofString "moved")) rfl)
  have bd_moved : Binds K fd_moved [(PySem.Str.ofString "floor"), (PySem.Str.ofString "sign"), (PySem.Str.ofString "folk")] [] := FunD.bindsN F_moved fun _ _ _ _ _ _ us hl => match us, hl with | [_, _, _], _ => rfl
  obtain ⟨fd_Course_init, F_Course_init⟩ := c.t.d.def_ 7 (d := dd_Course_init) rfl
  have bd_Course_init : Binds K fd_Course_init [(PySem.Str.ofString "self"), (PySem.Str.ofString "floor"), (PySem.Str.ofString "sun"), (PySem.Str.ofString "folk")] [] := FunD.bindsN F_Course_init fun _ _ _ _ _ _ us hl => match us, hl with | [_, _, _, _], _ => rfl
  obtain ⟨fd_Course_at, F_Course_at⟩ := c.t.d.def_ 8 (d := dd_Course_at) rfl
  have bd_Course_at : Binds K fd_Course_at [(PySem.Str.ofString "self"), (PySem.Str.ofString "many")] [] := FunD.bindsN F_Course_at fun _ _ _ _ _ _ us hl => match us, hl with | [_, _], _ => rfl
  obtain ⟨fd_suns_of, F_suns_of⟩ := c.t.d.def_ 9 (d := dd_suns_of) rfl
  have gl_suns_of : mg (PySem.Str.ofString "suns_of") = some (.ref (He.ga K (PySem.Str.ofString "suns_of"))) := He.glo_ok X G (c.t.d.fact 7 (f := .glo (PySem.Str.ofString "suns_of")) rfl)
  have bd_suns_of : Binds K fd_suns_of [(PySem.Str.ofString "floor"), (PySem.Str.ofString "sign"), (PySem.Str.ofString "folk")] [] := FunD.bindsN F_suns_of fun _ _ _ _ _ _ us hl => match us, hl with | [_, _, _], _ => rfl
  obtain ⟨fd_first_in_sun, F_first_in_sun⟩ := c.t.d.def_ 10 (d := dd_first_in_sun) rfl
  have gl_first_in_sun : mg (PySem.Str.ofString "first_in_sun") = some (.ref (He.ga K (PySem.Str.ofString "first_in_sun"))) := He.glo_ok X G (c.t.d.fact 8 (f := .glo (PySem.Str.ofString "first_in_sun")) rfl)
  have bd_first_in_sun : Binds K fd_first_in_sun [(PySem.Str.ofString "floor"), (PySem.Str.ofString "sun"), (PySem.Str.ofString "folk")] [] := FunD.bindsN F_first_in_sun fun _ _ _ _ _ _ us hl => match us, hl with | [_, _, _], _ => rfl
  obtain ⟨fd_is_number, F_is_number⟩ := c.t.d.def_ 11 (d := dd_is_number) rfl
  have gl_is_number : mg (PySem.Str.ofString "is_number") = some (.ref (He.ga K (PySem.Str.ofString "is_number"))) := He.glo_ok X G (c.t.d.fact 9 (f := .glo (PySem.Str.ofString "is_number")) rfl)
  have bd_is_number : Binds K fd_is_number [(PySem.Str.ofString "part"), (PySem.Str.ofString "low"), (PySem.Str.ofString "high")] [] := FunD.bindsN F_is_number fun _ _ _ _ _ _ us hl => match us, hl with | [_, _, _], _ => rfl
  obtain ⟨fd_is_cell, F_is_cell⟩ := c.t.d.def_ 12 (d := dd_is_cell) rfl
  have gl_is_cell : mg (PySem.Str.ofString "is_cell") = some (.ref (He.ga K (PySem.Str.ofString "is_cell"))) := He.glo_ok X G (c.t.d.fact 10 (f := .glo (PySem.Str.ofString "is_cell")) rfl)
  have bd_is_cell : Binds K fd_is_cell [(PySem.Str.ofString "part"), (PySem.Str.ofString "floor")] [] := FunD.bindsN F_is_cell fun _ _ _ _ _ _ us hl => match us, hl with | [_, _], _ => rfl
  obtain ⟨fd_is_post, F_is_post⟩ := c.t.d.def_ 13 (d := dd_is_post) rfl
  have gl_is_post : mg (PySem.Str.ofString "is_post") = some (.ref (He.ga K (PySem.Str.ofString "is_post"))) := He.glo_ok X G (c.t.d.fact 11 (f := .glo (PySem.Str.ofString "is_post")) rfl)
  have bd_is_post : Binds K fd_is_post [(PySem.Str.ofString "part"), (PySem.Str.ofString "floor")] [] := FunD.bindsN F_is_post fun _ _ _ _ _ _ us hl => match us, hl with | [_, _], _ => rfl
  obtain ⟨fd_need_floor, F_need_floor⟩ := c.t.d.def_ 14 (d := dd_need_floor) rfl
  have gl_need_floor : mg (PySem.Str.ofString "need_floor") = some (.ref (He.ga K (PySem.Str.ofString "need_floor"))) := He.glo_ok X G (c.t.d.fact 12 (f := .glo (PySem.Str.ofString "need_floor")) rfl)
  have bd_need_floor : Binds K fd_need_floor [(PySem.Str.ofString "floor")] [] := FunD.bindsN F_need_floor fun _ _ _ _ _ _ us hl => match us, hl with | [_], _ => rfl
  obtain ⟨fd_need_folk, F_need_folk⟩ := c.t.d.def_ 15 (d := dd_need_folk) rfl
  have gl_need_folk : mg (PySem.Str.ofString "need_folk") = some (.ref (He.ga K (PySem.Str.ofString "need_folk"))) := He.glo_ok X G (c.t.d.fact 13 (f := .glo (PySem.Str.ofString "need_folk")) rfl)
  have bd_need_folk : Binds K fd_need_folk [(PySem.Str.ofString "floor"), (PySem.Str.ofString "folk")] [] := FunD.bindsN F_need_folk fun _ _ _ _ _ _ us hl => match us, hl with | [_, _], _ => rfl
  obtain ⟨fd_need_sun, F_need_sun⟩ := c.t.d.def_ 16 (d := dd_need_sun) rfl
  have gl_need_sun : mg (PySem.Str.ofString "need_sun") = some (.ref (He.ga K (PySem.Str.ofString "need_sun"))) := He.glo_ok X G (c.t.d.fact 14 (f := .glo (PySem.Str.ofString "need_sun")) rfl)
  have bd_need_sun : Binds K fd_need_sun [(PySem.Str.ofString "sun")] [] := FunD.bindsN F_need_sun fun _ _ _ _ _ _ us hl => match us, hl with | [_], _ => rfl
  obtain ⟨fd_need_all, F_need_all⟩ := c.t.d.def_ 17 (d := dd_need_all) rfl
  have gl_need_all : mg (PySem.Str.ofString "need_all") = some (.ref (He.ga K (PySem.Str.ofString "need_all"))) := He.glo_ok X G (c.t.d.fact 15 (f := .glo (PySem.Str.ofString "need_all")) rfl)
  have bd_need_all : Binds K fd_need_all [(PySem.Str.ofString "floor"), (PySem.Str.ofString "sun"), (PySem.Str.ofString "folk")] [] := FunD.bindsN F_need_all fun _ _ _ _ _ _ us hl => match us, hl with | [_, _, _], _ => rfl
  obtain ⟨fd_need_count, F_need_count⟩ := c.t.d.def_ 18 (d := dd_need_count) rfl
  have gl_need_count : mg (PySem.Str.ofString "need_count") = some (.ref (He.ga K (PySem.Str.ofString "need_count"))) := He.glo_ok X G (c.t.d.fact 16 (f := .glo (PySem.Str.ofString "need_count")) rfl)
  have bd_need_count : Binds K fd_need_count [(PySem.Str.ofString "number"), (PySem.Str.ofString "low"), (PySem.Str.ofString "high")] [] := FunD.bindsN F_need_count fun _ _ _ _ _ _ us hl => match us, hl with | [_, _, _], _ => rfl
  obtain ⟨fd_awnings, F_awnings⟩ := c.t.d.def_ 19 (d := dd_awnings) rfl
  have gl_awnings : mg (PySem.Str.ofString "awnings") = some (.ref (He.ga K (PySem.Str.ofString "awnings"))) := He.glo_ok X G (c.t.d.fact 17 (f := .glo (PySem.Str.ofString "awnings")) rfl)
  have bd_awnings : Binds K fd_awnings [(PySem.Str.ofString "floor"), (PySem.Str.ofString "sun"), (PySem.Str.ofString "folk"), (PySem.Str.ofString "most")] [] := FunD.bindsN F_awnings fun _ _ _ _ _ _ us hl => match us, hl with | [_, _, _, _], _ => rfl
  obtain ⟨fd_seats_of, F_seats_of⟩ := c.t.d.def_ 20 (d := dd_seats_of) rfl
  have gl_seats_of : mg (PySem.Str.ofString "seats_of") = some (.ref (He.ga K (PySem.Str.ofString "seats_of"))) := He.glo_ok X G (c.t.d.fact 18 (f := .glo (PySem.Str.ofString "seats_of")) rfl)
  have bd_seats_of : Binds K fd_seats_of [(PySem.Str.ofString "folk")] [] := FunD.bindsN F_seats_of fun _ _ _ _ _ _ us hl => match us, hl with | [_], _ => rfl
  obtain ⟨fd_course, F_course⟩ := c.t.d.def_ 21 (d := dd_course) rfl
  have gl_course : mg (PySem.Str.ofString "course") = some (.ref (He.ga K (PySem.Str.ofString "course"))) := He.glo_ok X G (c.t.d.fact 19 (f := .glo (PySem.Str.ofString "course")) rfl)
  have bd_course : Binds K fd_course [(PySem.Str.ofString "floor"), (PySem.Str.ofString "sun"), (PySem.Str.ofString "folk")] [] := FunD.bindsN F_course fun _ _ _ _ _ _ us hl => match us, hl with | [_, _, _], _ => rfl
  obtain ⟨fd_paper, F_paper⟩ := c.t.d.def_ 22 (d := dd_paper) rfl
  have gl_paper : mg (PySem.Str.ofString "paper") = some (.ref (He.ga K (PySem.Str.ofString "paper"))) := He.glo_ok X G (c.t.d.fact 20 (f := .glo (PySem.Str.ofString "paper")) rfl)
  have bd_paper : Binds K fd_paper [(PySem.Str.ofString "floor"), (PySem.Str.ofString "sun"), (PySem.Str.ofString "folk")] [] := FunD.bindsN F_paper fun _ _ _ _ _ _ us hl => match us, hl with | [_, _, _], _ => rfl
  obtain ⟨fd_parted, F_parted⟩ := c.t.d.def_ 23 (d := dd_parted) rfl
  have gl_parted : mg (PySem.Str.ofString "parted") = some (.ref (He.ga K (PySem.Str.ofString "parted"))) := He.glo_ok X G (c.t.d.fact 21 (f := .glo (PySem.Str.ofString "parted")) rfl)
  have bd_parted : Binds K fd_parted [(PySem.Str.ofString "floor"), (PySem.Str.ofString "other"), (PySem.Str.ofString "sun")] [] := FunD.bindsN F_parted fun _ _ _ _ _ _ us hl => match us, hl with | [_, _, _], _ => rfl
  obtain ⟨fd_free_cells, F_free_cells⟩ := c.t.d.def_ 24 (d := dd_free_cells) rfl
  have gl_free_cells : mg (PySem.Str.ofString "free_cells") = some (.ref (He.ga K (PySem.Str.ofString "free_cells"))) := He.glo_ok X G (c.t.d.fact 22 (f := .glo (PySem.Str.ofString "free_cells")) rfl)
  have bd_free_cells : Binds K fd_free_cells [(PySem.Str.ofString "floor")] [] := FunD.bindsN F_free_cells fun _ _ _ _ _ _ us hl => match us, hl with | [_], _ => rfl
  obtain ⟨fd_need_rule, F_need_rule⟩ := c.t.d.def_ 25 (d := dd_need_rule) rfl
  have gl_need_rule : mg (PySem.Str.ofString "need_rule") = some (.ref (He.ga K (PySem.Str.ofString "need_rule"))) := He.glo_ok X G (c.t.d.fact 23 (f := .glo (PySem.Str.ofString "need_rule")) rfl)
  have bd_need_rule : Binds K fd_need_rule [(PySem.Str.ofString "rule")] [] := FunD.bindsN F_need_rule fun _ _ _ _ _ _ us hl => match us, hl with | [_], _ => rfl
  obtain ⟨fd_parting, F_parting⟩ := c.t.d.def_ 26 (d := dd_parting) rfl
  have gl_parting : mg (PySem.Str.ofString "parting") = some (.ref (He.ga K (PySem.Str.ofString "parting"))) := He.glo_ok X G (c.t.d.fact 24 (f := .glo (PySem.Str.ofString "parting")) rfl)
  have bd_parting : Binds K fd_parting [(PySem.Str.ofString "floor"), (PySem.Str.ofString "sun"), (PySem.Str.ofString "one"), (PySem.Str.ofString "other")] [] := FunD.bindsN F_parting fun _ _ _ _ _ _ us hl => match us, hl with | [_, _, _, _], _ => rfl
  obtain ⟨fd_shade, F_shade⟩ := c.t.d.def_ 27 (d := dd_shade) rfl
  have gl_shade : mg (PySem.Str.ofString "shade") = some (.ref (He.ga K (PySem.Str.ofString "shade"))) := He.glo_ok X G (c.t.d.fact 25 (f := .glo (PySem.Str.ofString "shade")) rfl)
  have bd_shade : Binds K fd_shade [(PySem.Str.ofString "floor"), (PySem.Str.ofString "sun"), (PySem.Str.ofString "beat")] [] := FunD.bindsN F_shade fun _ _ _ _ _ _ us hl => match us, hl with | [_, _, _], _ => rfl
  obtain ⟨fd_need_paper, F_need_paper⟩ := c.t.d.def_ 28 (d := dd_need_paper) rfl
  have gl_need_paper : mg (PySem.Str.ofString "need_paper") = some (.ref (He.ga K (PySem.Str.ofString "need_paper"))) := He.glo_ok X G (c.t.d.fact 26 (f := .glo (PySem.Str.ofString "need_paper")) rfl)
  have bd_need_paper : Binds K fd_need_paper [(PySem.Str.ofString "floor"), (PySem.Str.ofString "sun"), (PySem.Str.ofString "folk"), (PySem.Str.ofString "told")] [] := FunD.bindsN F_need_paper fun _ _ _ _ _ _ us hl => match us, hl with | [_, _, _, _], _ => rfl
  obtain ⟨fd_shows, F_shows⟩ := c.t.d.def_ 29 (d := dd_shows) rfl
  have gl_shows : mg (PySem.Str.ofString "shows") = some (.ref (He.ga K (PySem.Str.ofString "shows"))) := He.glo_ok X G (c.t.d.fact 27 (f := .glo (PySem.Str.ofString "shows")) rfl)
  have bd_shows : Binds K fd_shows [(PySem.Str.ofString "floor"), (PySem.Str.ofString "sun"), (PySem.Str.ofString "folk"), (PySem.Str.ofString "told")] [] := FunD.bindsN F_shows fun _ _ _ _ _ _ us hl => match us, hl with | [_, _, _, _], _ => rfl
  obtain ⟨fd_need_told, F_need_told⟩ := c.t.d.def_ 30 (d := dd_need_told) rfl
  have gl_need_told : mg (PySem.Str.ofString "need_told") = some (.ref (He.ga K (PySem.Str.ofString "need_told"))) := He.glo_ok X G (c.t.d.fact 28 (f := .glo (PySem.Str.ofString "need_told")) rfl)
  have bd_need_told : Binds K fd_need_told [(PySem.Str.ofString "floor"), (PySem.Str.ofString "folk"), (PySem.Str.ofString "told")] [] := FunD.bindsN F_need_told fun _ _ _ _ _ _ us hl => match us, hl with | [_, _, _], _ => rfl
  obtain ⟨fd_suns, F_suns⟩ := c.t.d.def_ 31 (d := dd_suns) rfl
  have gl_suns : mg (PySem.Str.ofString "suns") = some (.ref (He.ga K (PySem.Str.ofString "suns"))) := He.glo_ok X G (c.t.d.fact 29 (f := .glo (PySem.Str.ofString "suns")) rfl)
  have bd_suns : Binds K fd_suns [(PySem.Str.ofString "floor"), (PySem.Str.ofString "folk"), (PySem.Str.ofString "told")] [] := FunD.bindsN F_suns fun _ _ _ _ _ _ us hl => match us, hl with | [_, _, _], _ => rfl
  obtain ⟨fd__law_cloth, F__law_cloth⟩ := c.t.d.def_ 32 (d := dd__law_cloth) rfl
  have gl__law_cloth : mg (PySem.Str.ofString "_law_cloth") = some (.ref (He.ga K (PySem.Str.ofString "_law_cloth"))) := He.glo_ok X G (c.t.d.fact 30 (f := .glo (PySem.Str.ofString "_law_cloth")) rfl)
  have bd__law_cloth : Binds K fd__law_cloth [(PySem.Str.ofString "_law_cell")] [] := FunD.bindsN F__law_cloth fun _ _ _ _ _ _ us hl => match us, hl with | [_], _ => rfl
  obtain ⟨fd__law_word, F__law_word⟩ := c.t.d.def_ 33 (d := dd__law_word) rfl
  have gl__law_word : mg (PySem.Str.ofString "_law_word") = some (.ref (He.ga K (PySem.Str.ofString "_law_word"))) := He.glo_ok X G (c.t.d.fact 31 (f := .glo (PySem.Str.ofString "_law_word")) rfl)
  have bd__law_word : Binds K fd__law_word [(PySem.Str.ofString "_law_work")] [] := FunD.bindsN F__law_word fun _ _ _ _ _ _ us hl => match us, hl with | [_], _ => rfl
  obtain ⟨fd_restless, F_restless⟩ := c.t.d.def_ 34 (d := dd_restless) rfl
  have gl_restless : mg (PySem.Str.ofString "restless") = some (.ref (He.ga K (PySem.Str.ofString "restless"))) := He.glo_ok X G (c.t.d.fact 32 (f := .glo (PySem.Str.ofString "restless")) rfl)
  have bd_restless : Binds K fd_restless [(PySem.Str.ofString "floor"), (PySem.Str.ofString "sun"), (PySem.Str.ofString "folk")] [] := FunD.bindsN F_restless fun _ _ _ _ _ _ us hl => match us, hl with | [_, _, _], _ => rfl
  obtain ⟨fd_scorched, F_scorched⟩ := c.t.d.def_ 35 (d := dd_scorched) rfl
  have gl_scorched : mg (PySem.Str.ofString "scorched") = some (.ref (He.ga K (PySem.Str.ofString "scorched"))) := He.glo_ok X G (c.t.d.fact 33 (f := .glo (PySem.Str.ofString "scorched")) rfl)
  have bd_scorched : Binds K fd_scorched [(PySem.Str.ofString "floor"), (PySem.Str.ofString "sun"), (PySem.Str.ofString "folk")] [] := FunD.bindsN F_scorched fun _ _ _ _ _ _ us hl => match us, hl with | [_, _, _], _ => rfl
  obtain ⟨fd_seated, F_seated⟩ := c.t.d.def_ 36 (d := dd_seated) rfl
  have gl_seated : mg (PySem.Str.ofString "seated") = some (.ref (He.ga K (PySem.Str.ofString "seated"))) := He.glo_ok X G (c.t.d.fact 34 (f := .glo (PySem.Str.ofString "seated")) rfl)
  have bd_seated : Binds K fd_seated [(PySem.Str.ofString "floor"), (PySem.Str.ofString "sun"), (PySem.Str.ofString "folk"), (PySem.Str.ofString "many")] [] := FunD.bindsN F_seated fun _ _ _ _ _ _ us hl => match us, hl with | [_, _, _, _], _ => rfl
  obtain ⟨fd__law_lane, F__law_lane⟩ := c.t.d.def_ 37 (d := dd__law_lane) rfl
  have gl__law_lane : mg (PySem.Str.ofString "_law_lane") = some (.ref (He.ga K (PySem.Str.ofString "_law_lane"))) := He.glo_ok X G (c.t.d.fact 35 (f := .glo (PySem.Str.ofString "_law_lane")) rfl)
  have bd__law_lane : Binds K fd__law_lane [(PySem.Str.ofString "_law_wide"), (PySem.Str.ofString "_law_high"), (PySem.Str.ofString "_law_sits")] [] := FunD.bindsN F__law_lane fun _ _ _ _ _ _ us hl => match us, hl with | [_, _, _], _ => rfl
  obtain ⟨fd__law_taken, F__law_taken⟩ := c.t.d.def_ 38 (d := dd__law_taken) rfl
  have gl__law_taken : mg (PySem.Str.ofString "_law_taken") = some (.ref (He.ga K (PySem.Str.ofString "_law_taken"))) := He.glo_ok X G (c.t.d.fact 36 (f := .glo (PySem.Str.ofString "_law_taken")) rfl)
  have bd__law_taken : Binds K fd__law_taken [(PySem.Str.ofString "_law_row"), (PySem.Str.ofString "_law_many")] [] := FunD.bindsN F__law_taken fun _ _ _ _ _ _ us hl => match us, hl with | [_, _], _ => rfl
  obtain ⟨fd_law, F_law⟩ := c.t.d.def_ 39 (d := dd_law) rfl
  have gl_law : mg (PySem.Str.ofString "law") = some (.ref (He.ga K (PySem.Str.ofString "law"))) := He.glo_ok X G (c.t.d.fact 37 (f := .glo (PySem.Str.ofString "law")) rfl)
  have cm := c.more
  unfold ex at cm
  simp only [Bool.and_eq_true, decide_eq_true_eq] at cm
  obtain ⟨c_tab0, c_tup0, c_xp0, c_xp1, c_xp2, c_xp3, c_xp4, c_xp5, c_xp6, c_xp7, c_xp8, c_xp9, c_xp10, c_xp11, c_xp12, c_xp13, c_xp14, c_xp15, c_nd⟩ := cm
  obtain ⟨es0, n0, kd0⟩ := c.t.tab 0 rfl
  have hk0 : es0.toList.map keyS = [(PySem.Str.ofString "e"), (PySem.Str.ofString "n"), (PySem.Str.ofString "o"), (PySem.Str.ofString "s"), (PySem.Str.ofString "w")].map some := by
    have z := c_tab0
    unfold tabK at z
    split at z
    · rename_i q
      rw [kd0.at_] at q
      cases q
      rw [Bool.and_eq_true, Bool.and_eq_true] at z
      exact of_decide_eq_true z.2.1
    · cases z
  obtain ⟨fd_InSun_init, F_InSun_init⟩ := c.t.d.def_ 40 (d := dd_InSun_init) rfl
  have bd_InSun_init : Binds K fd_InSun_init [(PySem.Str.ofString "self"), (PySem.Str.ofString "beat")] [] := FunD.bindsN F_InSun_init fun _ _ _ _ _ _ us hl => match us, hl with | [_, _], _ => rfl
  have hE : Env P w K mg ⟨atf K, tbs K, none⟩ := ⟨He.free_ok X G (c.t.d.fact 38 (f := .free (PySem.Str.ofString "zip")) rfl),
      He.free_ok X G (c.t.d.fact 39 (f := .free (PySem.Str.ofString "ValueError")) rfl),
      He.free_ok X G (c.t.d.fact 40 (f := .free (PySem.Str.ofString "int")) rfl),
      He.free_ok X G (c.t.d.fact 41 (f := .free (PySem.Str.ofString "bool")) rfl),
      He.free_ok X G (c.t.d.fact 42 (f := .free (PySem.Str.ofString "str")) rfl),
      He.free_ok X G (c.t.d.fact 43 (f := .free (PySem.Str.ofString "tuple")) rfl),
      He.free_ok X G (c.t.d.fact 44 (f := .free (PySem.Str.ofString "list")) rfl),
      He.free_ok X G (c.t.d.fact 45 (f := .free (PySem.Str.ofString "len")) rfl),
      He.free_ok X G (c.t.d.fact 46 (f := .free (PySem.Str.ofString "isinstance")) rfl),
      He.free_ok X G (c.t.d.fact 47 (f := .free (PySem.Str.ofString "sorted")) rfl),
      He.free_ok X G (c.t.d.fact 48 (f := .free (PySem.Str.ofString "min")) rfl),
      He.free_ok X G (c.t.d.fact 49 (f := .free (PySem.Str.ofString "max")) rfl),
      He.free_ok X G (c.t.d.fact 50 (f := .free (PySem.Str.ofString "range")) rfl),
      He.free_ok X G (c.t.d.fact 51 (f := .free (PySem.Str.ofString "enumerate")) rfl),
      He.free_ok X G (c.t.d.fact 52 (f := .free (PySem.Str.ofString "abs")) rfl),
      He.free_ok X G (c.t.d.fact 53 (f := .free (PySem.Str.ofString "all")) rfl),
      He.free_ok X G (c.t.d.fact 54 (f := .free (PySem.Str.ofString "any")) rfl),
      He.int_ok X G (c.t.d.fact 55 (f := .int (PySem.Str.ofString "MOST_SIDE") 5) rfl),
      He.int_ok X G (c.t.d.fact 56 (f := .int (PySem.Str.ofString "MOST_POSTS") 4) rfl),
      He.int_ok X G (c.t.d.fact 57 (f := .int (PySem.Str.ofString "MOST_HIGH") 4) rfl),
      He.int_ok X G (c.t.d.fact 58 (f := .int (PySem.Str.ofString "MOST_AWNINGS") 8) rfl),
      He.int_ok X G (c.t.d.fact 59 (f := .int (PySem.Str.ofString "MOST_BEATS") 6) rfl),
      He.int_ok X G (c.t.d.fact 60 (f := .int (PySem.Str.ofString "MOST_FOLK") 4) rfl),
      He.int_ok X G (c.t.d.fact 61 (f := .int (PySem.Str.ofString "MOST_FAR") 1000000000000000000) rfl),
      He.int_ok X G (c.t.d.fact 62 (f := .int (PySem.Str.ofString "MOST_MORE") 3) rfl),
      He.str_ok X G (c.t.d.fact 63 (f := .str (PySem.Str.ofString "OVERHEAD") (PySem.Str.ofString "o")) rfl),
      ⟨_, .ref (He.ga K (PySem.Str.ofString "STEPS")), He.glo_ok X G (c.t.d.fact 64 (f := .glo (PySem.Str.ofString "STEPS")) rfl), rfl, tabK_ok (g := ⟨P, w, K, ⟨atf K, tbs K, none⟩⟩) kd0 c_tab0⟩,
      ⟨_, _, _, He.glo_ok X G (c.t.d.fact 64 (f := .glo (PySem.Str.ofString "STEPS")) rfl), kd0, hk0⟩,
      (by
      obtain ⟨v, r1, r2⟩ := repK_ok (g := ⟨P, w, K, ⟨atf K, tbs K, none⟩⟩) _ _ c_tup0
      exact ⟨_, v, He.glo_ok X G (c.t.d.fact 65 (f := .glo (PySem.Str.ofString "RULES")) rfl), r1, r2⟩),
      He.cls_ok (x := (PySem.Str.ofString "Course")) (c.t.d.fact 78 (f := .cls (PySem.Str.ofString "Course")) rfl),
      He.noat_ok (x := (PySem.Str.ofString "Course")) (c.t.d.fact 80 (f := .noat (PySem.Str.ofString "Course") (PySem.Str.ofString "rows")) rfl),
      He.noat_ok (x := (PySem.Str.ofString "Course")) (c.t.d.fact 81 (f := .noat (PySem.Str.ofString "Course") (PySem.Str.ofString "tail")) rfl),
      He.noat_ok (x := (PySem.Str.ofString "Course")) (c.t.d.fact 82 (f := .noat (PySem.Str.ofString "Course") (PySem.Str.ofString "turn")) rfl),
      rfl,
      He.glo_ok X G (c.t.d.fact 66 (f := .glo (PySem.Str.ofString "ShadeError")) rfl),
      He.glo_ok X G (c.t.d.fact 67 (f := .glo (PySem.Str.ofString "BadFloor")) rfl),
      He.glo_ok X G (c.t.d.fact 68 (f := .glo (PySem.Str.ofString "BadSun")) rfl),
      He.glo_ok X G (c.t.d.fact 69 (f := .glo (PySem.Str.ofString "BadFolk")) rfl),
      He.glo_ok X G (c.t.d.fact 70 (f := .glo (PySem.Str.ofString "BadCount")) rfl),
      He.glo_ok X G (c.t.d.fact 71 (f := .glo (PySem.Str.ofString "BadRule")) rfl),
      He.glo_ok X G (c.t.d.fact 72 (f := .glo (PySem.Str.ofString "BadTold")) rfl),
      He.glo_ok X G (c.t.d.fact 73 (f := .glo (PySem.Str.ofString "BadPaper")) rfl),
      He.glo_ok X G (c.t.d.fact 74 (f := .glo (PySem.Str.ofString "InSun")) rfl),
      He.glo_ok X G (c.t.d.fact 75 (f := .glo (PySem.Str.ofString "BadDeed")) rfl),
      He.glo_ok X G (c.t.d.fact 76 (f := .glo (PySem.Str.ofString "Halted")) rfl),
      He.glo_ok X G (c.t.d.fact 77 (f := .glo (PySem.Str.ofString "BadText")) rfl),
      supB_ok c_xp0,
      covB_ok c_xp2,
      fun k b e => by
      have m := look_mem e
      simp only [cv_ShadeError, List.mem_cons, List.mem_nil_iff, or_false, Prod.mk.injEq] at m
      rcases m with ⟨rfl, _⟩
      · exact xcF_ok c_xp15,
      subB_ok c_xp3,
      subB_ok c_xp4,
      subB_ok c_xp5,
      subB_ok c_xp6,
      subB_ok c_xp7,
      subB_ok c_xp8,
      subB_ok c_xp9,
      subB_ok c_xp10,
      subB_ok c_xp11,
      subB_ok c_xp12,
      subB_ok c_xp13,
      subB_ok c_xp14⟩
  have e := hfa.symm.trans gl_law
  cases e
  have b := FunD.bindsA (ps := [(PySem.Str.ofString "_law_script")]) F_law fun _ _ _ _ _ _ us hl => match us, hl with | [_], _ => rfl
  refine ⟨fd_law, fun s v => b s [v] rfl, fun base _ _ TB => ?_⟩
  have X_InSun : OwnX P w K mg base ⟨atf K, tbs K, none⟩ 10 (PySem.Str.ofString "InSun") [(PySem.Str.ofString "beat")] := ownX_of c_xp1 hE.gx_InSun bd_InSun_init (xok_InSun hE F_InSun_init) (by decide)
  have O__law_alike : Own P w K mg base ⟨atf K, tbs K, none⟩ 7 (PySem.Str.ofString "_law_alike") [(PySem.Str.ofString "_law_one"), (PySem.Str.ofString "_law_due")] [false, false] (m__law_alike 6) := ⟨_, fd__law_alike, gl__law_alike, F__law_alike.kp, bd__law_alike, ok__law_alike hE  F__law_alike gl__law_alike F__law_alike.kp bd__law_alike 6⟩
  have O_all_cells : Own P w K mg base ⟨atf K, tbs K, none⟩ 1 (PySem.Str.ofString "all_cells") [(PySem.Str.ofString "floor")] [false] m_all_cells := ⟨_, fd_all_cells, gl_all_cells, F_all_cells.kp, bd_all_cells, ok_all_cells hE  F_all_cells⟩
  have O_chosen : Own P w K mg base ⟨atf K, tbs K, none⟩ 6 (PySem.Str.ofString "chosen") [(PySem.Str.ofString "cells"), (PySem.Str.ofString "size")] [false, false] (m_chosen 5) := ⟨_, fd_chosen, gl_chosen, F_chosen.kp, bd_chosen, ok_chosen hE  F_chosen gl_chosen F_chosen.kp bd_chosen 5⟩
  have O_far_from : Own P w K mg base ⟨atf K, tbs K, none⟩ 1 (PySem.Str.ofString "far_from") [(PySem.Str.ofString "one"), (PySem.Str.ofString "other")] [false, false] m_far_from := ⟨_, fd_far_from, gl_far_from, F_far_from.kp, bd_far_from, ok_far_from hE  F_far_from⟩
  have O_seat_for : Own P w K mg base ⟨atf K, tbs K, none⟩ 4 (PySem.Str.ofString "seat_for") [(PySem.Str.ofString "rule"), (PySem.Str.ofString "cell"), (PySem.Str.ofString "free")] [false, false, false] m_seat_for := ⟨_, fd_seat_for, gl_seat_for, F_seat_for.kp, bd_seat_for, ok_seat_for hE O_far_from (tbF_of F_seat_for c_nd TB 0 rfl rfl) F_seat_for⟩
  have O_shaded : Own P w K mg base ⟨atf K, tbs K, none⟩ 2 (PySem.Str.ofString "shaded") [(PySem.Str.ofString "floor"), (PySem.Str.ofString "sign")] [false, false] m_shaded := ⟨_, fd_shaded, gl_shaded, F_shaded.kp, bd_shaded, ok_shaded hE O_all_cells F_shaded⟩
  have O_moved : Own P w K mg base ⟨atf K, tbs K, none⟩ 5 (PySem.Str.ofString "moved") [(PySem.Str.ofString "floor"), (PySem.Str.ofString "sign"), (PySem.Str.ofString "folk")] [false, false, false] m_moved := ⟨_, fd_moved, gl_moved, F_moved.kp, bd_moved, ok_moved hE O_all_cells O_seat_for O_shaded F_moved⟩
  have O_Course_init : OwnI P w K mg base ⟨atf K, tbs K, none⟩ 0 6 (PySem.Str.ofString "Course") [(PySem.Str.ofString "self"), (PySem.Str.ofString "floor"), (PySem.Str.ofString "sun"), (PySem.Str.ofString "folk")] [false, false, false] m_Course_init := ⟨_, fd_Course_init, He.glo_ok X G (c.t.d.fact 79 (f := .glo (PySem.Str.ofString "Course")) rfl), He.mkr_ok (x := (PySem.Str.ofString "Course")) (c.t.d.fact 83 (f := .mkr (PySem.Str.ofString "Course")) rfl), bd_Course_init, ok_Course_init hE O_moved F_Course_init⟩
  have O_Course_at : OwnM P w K mg base ⟨atf K, tbs K, none⟩ 0 1 (PySem.Str.ofString "at") [(PySem.Str.ofString "self"), (PySem.Str.ofString "many")] [false, false] m_Course_at := ⟨_, fd_Course_at, He.cls_ok (x := (PySem.Str.ofString "Course")) (c.t.d.fact 78 (f := .cls (PySem.Str.ofString "Course")) rfl), He.meth_ok (x := (PySem.Str.ofString "Course")) (m := (PySem.Str.ofString "at")) (c.t.d.fact 84 (f := .meth (PySem.Str.ofString "Course") (PySem.Str.ofString "at")) rfl), bd_Course_at, ok_Course_at hE  F_Course_at⟩
  have O_suns_of : Own P w K mg base ⟨atf K, tbs K, none⟩ 3 (PySem.Str.ofString "suns_of") [(PySem.Str.ofString "floor"), (PySem.Str.ofString "sign"), (PySem.Str.ofString "folk")] [false, false, false] m_suns_of := ⟨_, fd_suns_of, gl_suns_of, F_suns_of.kp, bd_suns_of, ok_suns_of hE O_shaded F_suns_of⟩
  have O_first_in_sun : Own P w K mg base ⟨atf K, tbs K, none⟩ 8 (PySem.Str.ofString "first_in_sun") [(PySem.Str.ofString "floor"), (PySem.Str.ofString "sun"), (PySem.Str.ofString "folk")] [false, false, false] m_first_in_sun := ⟨_, fd_first_in_sun, gl_first_in_sun, F_first_in_sun.kp, bd_first_in_sun, ok_first_in_sun hE O_Course_init O_Course_at O_suns_of F_first_in_sun⟩
  have O_is_number : Own P w K mg base ⟨atf K, tbs K, none⟩ 1 (PySem.Str.ofString "is_number") [(PySem.Str.ofString "part"), (PySem.Str.ofString "low"), (PySem.Str.ofString "high")] [false, false, false] m_is_number := ⟨_, fd_is_number, gl_is_number, F_is_number.kp, bd_is_number, ok_is_number hE  F_is_number⟩
  have O_is_cell : Own P w K mg base ⟨atf K, tbs K, none⟩ 2 (PySem.Str.ofString "is_cell") [(PySem.Str.ofString "part"), (PySem.Str.ofString "floor")] [false, false] m_is_cell := ⟨_, fd_is_cell, gl_is_cell, F_is_cell.kp, bd_is_cell, ok_is_cell hE O_is_number F_is_cell⟩
  have O_is_post : Own P w K mg base ⟨atf K, tbs K, none⟩ 3 (PySem.Str.ofString "is_post") [(PySem.Str.ofString "part"), (PySem.Str.ofString "floor")] [false, false] m_is_post := ⟨_, fd_is_post, gl_is_post, F_is_post.kp, bd_is_post, ok_is_post hE O_is_cell O_is_number F_is_post⟩
  have O_need_floor : Own P w K mg base ⟨atf K, tbs K, none⟩ 4 (PySem.Str.ofString "need_floor") [(PySem.Str.ofString "floor")] [false] m_need_floor := ⟨_, fd_need_floor, gl_need_floor, F_need_floor.kp, bd_need_floor, ok_need_floor hE O_is_cell O_is_number O_is_post F_need_floor⟩
  have O_need_folk : Own P w K mg base ⟨atf K, tbs K, none⟩ 3 (PySem.Str.ofString "need_folk") [(PySem.Str.ofString "floor"), (PySem.Str.ofString "folk")] [false, false] m_need_folk := ⟨_, fd_need_folk, gl_need_folk, F_need_folk.kp, bd_need_folk, ok_need_folk hE O_is_cell F_need_folk⟩
  have O_need_sun : Own P w K mg base ⟨atf K, tbs K, none⟩ 1 (PySem.Str.ofString "need_sun") [(PySem.Str.ofString "sun")] [false] m_need_sun := ⟨_, fd_need_sun, gl_need_sun, F_need_sun.kp, bd_need_sun, ok_need_sun hE  F_need_sun⟩
  have O_need_all : Own P w K mg base ⟨atf K, tbs K, none⟩ 5 (PySem.Str.ofString "need_all") [(PySem.Str.ofString "floor"), (PySem.Str.ofString "sun"), (PySem.Str.ofString "folk")] [false, false, false] m_need_all := ⟨_, fd_need_all, gl_need_all, F_need_all.kp, bd_need_all, ok_need_all hE O_need_floor O_need_folk O_need_sun F_need_all⟩
  have O_need_count : Own P w K mg base ⟨atf K, tbs K, none⟩ 2 (PySem.Str.ofString "need_count") [(PySem.Str.ofString "number"), (PySem.Str.ofString "low"), (PySem.Str.ofString "high")] [false, false, false] m_need_count := ⟨_, fd_need_count, gl_need_count, F_need_count.kp, bd_need_count, ok_need_count hE O_is_number F_need_count⟩
  have O_awnings : Own P w K mg base ⟨atf K, tbs K, none⟩ 9 (PySem.Str.ofString "awnings") [(PySem.Str.ofString "floor"), (PySem.Str.ofString "sun"), (PySem.Str.ofString "folk"), (PySem.Str.ofString "most")] [false, false, false, false] m_awnings := ⟨_, fd_awnings, gl_awnings, F_awnings.kp, bd_awnings, ok_awnings hE O_all_cells O_chosen O_first_in_sun O_need_all O_need_count F_awnings⟩
  have O_seats_of : Own P w K mg base ⟨atf K, tbs K, none⟩ 1 (PySem.Str.ofString "seats_of") [(PySem.Str.ofString "folk")] [false] m_seats_of := ⟨_, fd_seats_of, gl_seats_of, F_seats_of.kp, bd_seats_of, ok_seats_of hE  F_seats_of⟩
  have O_course : Own P w K mg base ⟨atf K, tbs K, none⟩ 8 (PySem.Str.ofString "course") [(PySem.Str.ofString "floor"), (PySem.Str.ofString "sun"), (PySem.Str.ofString "folk")] [false, false, false] m_course := ⟨_, fd_course, gl_course, F_course.kp, bd_course, ok_course hE O_Course_init O_need_all O_seats_of F_course⟩
  have O_paper : Own P w K mg base ⟨atf K, tbs K, none⟩ 9 (PySem.Str.ofString "paper") [(PySem.Str.ofString "floor"), (PySem.Str.ofString "sun"), (PySem.Str.ofString "folk")] [false, false, false] m_paper := ⟨_, fd_paper, gl_paper, F_paper.kp, bd_paper, ok_paper hE O_Course_init O_first_in_sun O_need_all O_seats_of X_InSun F_paper⟩
  have O_parted : Own P w K mg base ⟨atf K, tbs K, none⟩ 5 (PySem.Str.ofString "parted") [(PySem.Str.ofString "floor"), (PySem.Str.ofString "other"), (PySem.Str.ofString "sun")] [false, false, false] m_parted := ⟨_, fd_parted, gl_parted, F_parted.kp, bd_parted, ok_parted hE O_all_cells O_need_floor O_need_sun O_shaded F_parted⟩
  have O_free_cells : Own P w K mg base ⟨atf K, tbs K, none⟩ 2 (PySem.Str.ofString "free_cells") [(PySem.Str.ofString "floor")] [false] m_free_cells := ⟨_, fd_free_cells, gl_free_cells, F_free_cells.kp, bd_free_cells, ok_free_cells hE O_all_cells F_free_cells⟩
  have O_need_rule : Own P w K mg base ⟨atf K, tbs K, none⟩ 1 (PySem.Str.ofString "need_rule") [(PySem.Str.ofString "rule")] [false] m_need_rule := ⟨_, fd_need_rule, gl_need_rule, F_need_rule.kp, bd_need_rule, ok_need_rule hE  F_need_rule⟩
  have O_parting : Own P w K mg base ⟨atf K, tbs K, none⟩ 8 (PySem.Str.ofString "parting") [(PySem.Str.ofString "floor"), (PySem.Str.ofString "sun"), (PySem.Str.ofString "one"), (PySem.Str.ofString "other")] [false, false, false, false] m_parting := ⟨_, fd_parting, gl_parting, F_parting.kp, bd_parting, ok_parting hE O_Course_init O_Course_at O_free_cells O_need_floor O_need_rule O_need_sun O_seats_of F_parting⟩
  have O_shade : Own P w K mg base ⟨atf K, tbs K, none⟩ 5 (PySem.Str.ofString "shade") [(PySem.Str.ofString "floor"), (PySem.Str.ofString "sun"), (PySem.Str.ofString "beat")] [false, false, false] m_shade := ⟨_, fd_shade, gl_shade, F_shade.kp, bd_shade, ok_shade hE O_need_count O_need_floor O_need_sun O_shaded F_shade⟩
  have O_need_paper : Own P w K mg base ⟨atf K, tbs K, none⟩ 3 (PySem.Str.ofString "need_paper") [(PySem.Str.ofString "floor"), (PySem.Str.ofString "sun"), (PySem.Str.ofString "folk"), (PySem.Str.ofString "told")] [false, false, false, false] m_need_paper := ⟨_, fd_need_paper, gl_need_paper, F_need_paper.kp, bd_need_paper, ok_need_paper hE O_is_cell O_is_number F_need_paper⟩
  have O_shows : Own P w K mg base ⟨atf K, tbs K, none⟩ 6 (PySem.Str.ofString "shows") [(PySem.Str.ofString "floor"), (PySem.Str.ofString "sun"), (PySem.Str.ofString "folk"), (PySem.Str.ofString "told")] [false, false, false, false] m_shows := ⟨_, fd_shows, gl_shows, F_shows.kp, bd_shows, ok_shows hE O_moved O_need_all O_need_paper O_seats_of O_suns_of F_shows⟩
  have O_need_told : Own P w K mg base ⟨atf K, tbs K, none⟩ 3 (PySem.Str.ofString "need_told") [(PySem.Str.ofString "floor"), (PySem.Str.ofString "folk"), (PySem.Str.ofString "told")] [false, false, false] m_need_told := ⟨_, fd_need_told, gl_need_told, F_need_told.kp, bd_need_told, ok_need_told hE O_is_cell F_need_told⟩
  have O_suns : Own P w K mg base ⟨atf K, tbs K, none⟩ 6 (PySem.Str.ofString "suns") [(PySem.Str.ofString "floor"), (PySem.Str.ofString "folk"), (PySem.Str.ofString "told")] [false, false, false] m_suns := ⟨_, fd_suns, gl_suns, F_suns.kp, bd_suns, ok_suns hE O_moved O_need_floor O_need_folk O_need_told O_seats_of F_suns⟩
  have O__law_cloth : Own P w K mg base ⟨atf K, tbs K, none⟩ 10 (PySem.Str.ofString "_law_cloth") [(PySem.Str.ofString "_law_cell")] [false] m__law_cloth := ⟨_, fd__law_cloth, gl__law_cloth, F__law_cloth.kp, bd__law_cloth, ok__law_cloth hE O__law_alike O_awnings O_course O_paper O_parted O_parting O_shade O_shows O_suns F__law_cloth⟩
  have O__law_word : WordK P w K mg base ⟨atf K, tbs K, none⟩ 0 (PySem.Str.ofString "_law_word") n__law_word i__law_word (covT cv_ShadeError) h__law_word := ok__law_word hE F__law_word gl__law_word bd__law_word
  have O_restless : Own P w K mg base ⟨atf K, tbs K, none⟩ 8 (PySem.Str.ofString "restless") [(PySem.Str.ofString "floor"), (PySem.Str.ofString "sun"), (PySem.Str.ofString "folk")] [false, false, false] m_restless := ⟨_, fd_restless, gl_restless, F_restless.kp, bd_restless, ok_restless hE O_Course_init O_need_all F_restless⟩
  have O_scorched : Own P w K mg base ⟨atf K, tbs K, none⟩ 8 (PySem.Str.ofString "scorched") [(PySem.Str.ofString "floor"), (PySem.Str.ofString "sun"), (PySem.Str.ofString "folk")] [false, false, false] m_scorched := ⟨_, fd_scorched, gl_scorched, F_scorched.kp, bd_scorched, ok_scorched hE O_Course_init O_Course_at O_need_all O_suns_of F_scorched⟩
  have O_seated : Own P w K mg base ⟨atf K, tbs K, none⟩ 8 (PySem.Str.ofString "seated") [(PySem.Str.ofString "floor"), (PySem.Str.ofString "sun"), (PySem.Str.ofString "folk"), (PySem.Str.ofString "many")] [false, false, false, false] m_seated := ⟨_, fd_seated, gl_seated, F_seated.kp, bd_seated, ok_seated hE O_Course_init O_Course_at O_need_all O_need_count O_seats_of F_seated⟩
  have O__law_lane : Own P w K mg base ⟨atf K, tbs K, none⟩ 12 (PySem.Str.ofString "_law_lane") [(PySem.Str.ofString "_law_wide"), (PySem.Str.ofString "_law_high"), (PySem.Str.ofString "_law_sits")] [false, false, false] m__law_lane := ⟨_, fd__law_lane, gl__law_lane, F__law_lane.kp, bd__law_lane, ok__law_lane hE O__law_alike O__law_word O_paper O_restless O_scorched O_seated O_shade (tbF_of F__law_lane c_nd TB 1 rfl rfl) F__law_lane⟩
  have O__law_taken : Own P w K mg base ⟨atf K, tbs K, none⟩ 1 (PySem.Str.ofString "_law_taken") [(PySem.Str.ofString "_law_row"), (PySem.Str.ofString "_law_many")] [true, false] m__law_taken := ⟨_, fd__law_taken, gl__law_taken, F__law_taken.kp, bd__law_taken, ok__law_taken hE  F__law_taken⟩
  exact ok_law hE O__law_alike O__law_cloth O__law_lane O__law_taken O_awnings O_parting F_law
theorem told {P : Program} {w : World} {K : PySem.W.Frag} {at_ : Nat → Addr} (hm : ∀ ns : List Int, ns.length ≤ 63 → ∃ ρ, m_law [some (.val (.scr ns))] = some (.ok (.val (.bl true)), ρ)) (H : Hp) (a : Addr) (ns : List Int) (hl : ns.length ≤ 63) (hT : ∀ p ∈ tbs K, H p.1 = some (.tbl #[])) (hS : SqL K H a (ns.map V.int)) :
    spOf ⟨P, w, K, ⟨at_, tbs K, none⟩⟩ [false] m_law [.ref a] H (fun v _ => v = .bl true) (fun _ _ _ => False) := by
  classical
  have hF : Le (fun b => if b ∈ (tbs K).map (·.1) then none else H b) H := fun b o e => by
    by_cases q : b ∈ (tbs K).map (·.1)
    · simp only [q, if_true] at e; cases e
    · simp only [q, if_false] at e; exact e
  have isT : ∀ b, b ∈ (tbs K).map (·.1) → H b = some (.tbl #[]) := fun b hb => by
    obtain ⟨p, hp, rfl⟩ := List.mem_map.mp hb
    exact hT p hp
  have hS2 : SqL K (fun b => if b ∈ (tbs K).map (·.1) then none else H b) a (ns.map V.int) := by
    rcases hS with h | h
    · refine .inl ?_
      rcases h with h | ⟨o, h⟩
      · refine .inl ?_
        show (if a ∈ (tbs K).map (·.1) then none else H a) = _
        rw [if_neg (fun q => by rw [isT a q] at h; cases h)]; exact h
      · refine .inr ⟨o, ?_⟩
        show (if a ∈ (tbs K).map (·.1) then none else H a) = _
        rw [if_neg (fun q => by rw [isT a q] at h; cases h)]; exact h
    · exact .inr h
  have ro : RepO ⟨P, w, K, ⟨at_, tbs K, none⟩⟩ H (fun b => if b ∈ (tbs K).map (·.1) then none else H b) (O.val (.scr ns)) (V.ref a) (fun _ => False) := by
    rw [RepO, RepV]; exact ⟨a, rfl, hS2⟩
  have rl : RepL ⟨P, w, K, ⟨at_, tbs K, none⟩⟩ H (fun b => if b ∈ (tbs K).map (·.1) then none else H b) [(V.ref a, O.val (.scr ns))] (fun _ => False) := by
    rw [RepL]
    exact ⟨fun _ => False, fun _ => False, ⟨fun _ h => h, fun _ h => h, fun _ h _ => h⟩, ro, by rw [RepL]; trivial⟩
  have gd : Good ⟨P, w, K, ⟨at_, tbs K, none⟩⟩ H (fun b => if b ∈ (tbs K).map (·.1) then none else H b) (fun _ => none) [(V.ref a, O.val (.scr ns))] :=
    ⟨fun _ => False, fun p hp => ⟨if_pos (List.mem_map_of_mem hp), rfl, fun h => h, #[], hT p hp, trivial, fun pos cv hc => by simp [codeAmong] at hc⟩, hF, (fun _ _ h => by cases h), (fun _ _ h => by cases h), fun _ h => h.elim, rl⟩
  refine ⟨rfl, _, fun _ => none, [some (.val (.scr ns))], ⟨fun i o e => ?_, rfl, gd⟩, ?_⟩
  · cases i with
    | zero => exact ⟨.ref a, rfl⟩
    | succ i => simp at e
  · obtain ⟨ρ, e⟩ := hm ns hl
    rw [e]
    intro v H' F' le st
    have r := st.gd.val (B := slL _ _)
    rw [RepV] at r
    exact r
end G
open PySem PySem.W PySem.Calls PyProof.Rows
theorem PySem.Challenge.cw_shadeseats_k16_known_floors_holds : PySem.Challenge.rw_shadeseats_k16_known_floors.Holds := by
  w_on; o_law
  refine HandSHeadRun.head_any (r := OpenLaw.row PySem.Challenge.rw_shadeseats_k16_known_floors) (q := view (OpenLaw.row PySem.Challenge.rw_shadeseats_k16_known_floors).prog [66]) (H := G.hk) (ob := G.ob) (M := 20000) (loose := G.loose) (d := HandSHeadRun.topDef (OpenLaw.row PySem.Challenge.rw_shadeseats_k16_known_floors).prog 66) (kwd := []) G.ob_eq
    (by kernel_rfl) (fun s => by kernel_rfl) G.run (by kernel_rfl) (by kernel_rfl) (by kernel_rfl) (by rfl) (by first | assumption | decide +kernel) (by decide +kernel) ⟨rfl, rfl, rfl, rfl, rfl, by decide +kernel⟩ ?hw ?hc
  case hw => w_witness2
  case hc =>
    refine LamX.walk_ofTsE (l := PySem.Challenge.rw_shadeseats_k16_known_floors) (n := 63) (k := 13) (x := PySem.Str.ofString "_law_script") (CX := fun w => L2.CX (PySem.Challenge.rw_shadeseats_k16_known_floors).prog w) rfl (by decide) (by kernel_rfl) ⟨rfl, by decide, by decide⟩ ?F (fun w H s e s' ⟨_, _, _, _, _, _, _, _, _, _, _, _, z⟩ => z)
    intro w mg fa h Y Gn hmg0
    obtain ⟨K, KX, c⟩ := Y
    have hmg : mg ("law" : PySem.Str) = some (.ref fa) := by
      have e : (HandSHeadRun.topDef (OpenLaw.row PySem.Challenge.rw_shadeseats_k16_known_floors).prog 66).name = ("law" : PySem.Str) := by kernel_rfl
      rw [← e]
      exact hmg0
    obtain ⟨fd, hb, hF⟩ := G.facts (P := (PySem.Challenge.rw_shadeseats_k16_known_floors).prog) (w := w)  KX Gn hmg c
    refine ⟨K, KX, fd, G.tf.map (He.cT K), PF.spOf ⟨(PySem.Challenge.rw_shadeseats_k16_known_floors).prog, w, K, ⟨G.atf K, G.tbs K, none⟩⟩ [false] G.m_law, fun p hp => ?_, fun p hp => ?_, fun p hp => ?_, hb, fun H a ns hl _ hT hS => G.told G.law_true H a ns hl (fun p hp => ?_) hS, hF⟩
    · obtain ⟨q, hq, rfl⟩ := List.mem_map.mp hp
      exact c.empty q hq
    · obtain ⟨q, hq, rfl⟩ := List.mem_map.mp hp
      exact c.out q hq
    · obtain ⟨q, hq, rfl⟩ := List.mem_map.mp hp
      exact PySem.W.codeHd_of_K KX (c.hd q hq)
    · have hm : p.1 ∈ (G.tbs K).map (·.1) := List.mem_map_of_mem hp
      rw [G.tbs_fst] at hm
      obtain ⟨q, hq, e⟩ := List.mem_map.mp hm
      rw [← e]
      exact hT _ (List.mem_map_of_mem hq)

