import PyProof.Rows.All
import Wide.All
import OpenK.AllK
import Wide.FinOn
import HandS.ForMost
import HandS.ForExc
import HandS.Deep
import HandS.More
import KE.KDictKeyed
import HandS.Lambda
import HandS.TupAny
import HandS.IsInst
import HandS.Wide
import HandS.Style
import HandS.CallSlots
import HandS.Comp
import HandS.Iter
import HandS.Zip
import KE.GoesNew
import HandS.Dict
import HandS.DictComp
import HandS.NoneIn
import HandS.TupSets
import KE.SortData
import KE.DataMinMax
import HandS.Conv
import HandS.Text
import HandS.Defaults
import HandS.WordsExc
import HandS.Head0
import HandS.Head1
import HandS.Head2
import HandS.HeadEnd
import HandS.HeadHook1
import HandS.HeadHook2
import HandS.HeadHook3
import HandS.HeadHook4
import HandS.Nested
import HandS.SortKw
import KE.DataMinKey
import KE.LtData
import HandS.TupMul
import PyProof.StrOps2
import KE.DataCmp
import HandS.ExcInit
import HandS.ExcOwn
import HandS.ExcField
import HandS.ExcIs
import KE.DataFind
import KE.KExcIs
import KE.GoesZip
import KE.GoesMore
import KE.KItemsList
import PyProof.CollectWalk
import HandS.RevTup
import KE.KDictZip
import HandS.HeadWalk
import PySem.Challenge.RW_shadeseats_k18_whole_shades_of_parts
set_option Elab.async false
set_option linter.all false
set_option maxRecDepth 100000
set_option maxHeartbeats 1000000
namespace PF
open PySem PySem.Spec PyProof.Rows L2

/-- plain data -/
inductive D where
  | non | bl (b : Bool) | int (i : Int) | str (x : Str)
  | tup (xs : List D) | lst (xs : List D) | dct (t : Bool) (ks vs : List D) | ins (c : Nat) (ns : List Str) (vs : List D)
  /-- the script -/
  | scr (ns : List Int)
  /-- a built-in type -/
  | ty (n : String)
  /-- the exception that a suite handles: its class, its fields -/
  | exn (c : Nat) (ns : List Str) (vs : List D)
  deriving Inhabited
/-- data, or a tree of mutable things that one slot alone holds -/
inductive O where
  | val (d : D) | lst (os : List O) | dct (t : Bool) (ks : List D) (os : List O) | ins (c : Nat) (ns : List Str) (os : List O)
  deriving Inhabited

/-- where the classes stand; the tables of code objects, each with the name that its code objects have -/
structure Ca where
  at_ : Nat → Addr
  tb : List (Addr × Str) := []
  /-- the exception at hand: where, its dict, its class -/
  xa : Option (Addr × Option Addr × Nat) := none
instance : CoeFun Ca fun _ => Nat → Addr := ⟨Ca.at_⟩
/-- what the text's top has left -/
structure Gv where
  P : Program
  w : World
  K : PySem.W.Frag
  ca : Ca

mutual
def toNk : D → Option NestedKey
  | .non => some .none
  | .int i => some (.num i)
  | .str x => some (.text x)
  | .tup xs => (toNks xs).map .tup
  | _ => none
def toNks : List D → Option (List NestedKey)
  | [] => some []
  | x :: xs => match toNk x, toNks xs with
    | some k, some ks => some (k :: ks)
    | _, _ => none
end

/-- at a: a dict whose keys are (nested) tuples -/
def dTN (g : Gv) (a : Addr) (xs : List (NestedKey × Addr × V)) : HO := .ext fun h => xs.length ≤ sizeLine ∧ (a == sysModules) = false ∧
  ∃ ys : List (NestedKey × Addr × Value), Paired (fun (x : NestedKey × Addr × V) (y : NestedKey × Addr × Value) => x.1 = y.1 ∧ x.2.1 = y.2.1 ∧ RelV x.2.2 y.2.2) xs ys ∧
    ∃ o es ep, h.get? a = some o ∧ o.ExactDict ∧ o.data = .dict es ep ∧ es.toList = ys.map (entryOfKey (nestedKind g.P g.w)) ∧ (ys.map (·.1)).Nodup

def keyD : Key → D
  | .inl i => .int i
  | .inr x => .str x

/-- a dict of the text's top, by all of its (text) keys -/
def KDc (g : Gv) (a : Addr) (ks : List D) (us : List V) : Prop := ∃ es n, ∃ zs : List (Str × V), KDict g.K g.w a es n ∧ ks = zs.map (fun z => .str z.1) ∧ us = zs.map (fun z => z.2) ∧ ∀ x : Str, ∃ r, PySem.W.nsIn g.K a x = some r ∧ RelO (zs.lookup x) r

abbrev Le (F H : Hp) : Prop := ∀ a o, F a = some o → H a = some o
theorem Le.refl (F : Hp) : Le F F := fun _ _ h => h
theorem Le.trans {F H H' : Hp} (h1 : Le F H) (h2 : Le H H') : Le F H' := fun a o h => h2 a o (h1 a o h)

section
variable (g : Gv)
mutual
/-- the value v is the data d, by what stands in F -/
def RepV (F : Hp) : D → V → Prop
  | .non, v => v = .non
  | .bl b, v => v = .bl b
  | .int i, v => v = .int i
  | .str x, v => v = .str x
  | .tup ds, v => ∃ a vs, v = .ref a ∧ SqT g.K F a vs ∧ RepVs F ds vs
  | .lst ds, v => ∃ a vs, v = .ref a ∧ F a = some (.lst vs) ∧ RepVs F ds vs
  | .scr ns, v => ∃ a, v = .ref a ∧ SqL g.K F a (ns.map V.int)
  | .ty n, v => v = .ty n
  | .exn c ns ds, v => ∃ x, g.ca.xa = some x ∧ v = .ref x.1 ∧ x.2.2 = c ∧ ((ns = [] ∧ x.2.1 = none) ∨ ∃ dd us, x.2.1 = some dd ∧ F dd = some (.xd (ns.zip us)) ∧ ns.length = us.length ∧ RepVs F ds us)
  | .dct false ks ds, v => ∃ a us, v = .ref a ∧ ((∃ kk : List Key, ks = kk.map keyD ∧ kk.Nodup ∧ kk.length = us.length ∧ F a = some (.dK (kk.zip us))) ∨ KDc g a ks us) ∧ RepVs F ds us
  | .dct true ks ds, v => ∃ a, ∃ xs : List (NestedKey × Addr × V), v = .ref a ∧ RepVs F ks (xs.map fun x => .ref x.2.1) ∧ ks.map toNk = xs.map (fun x => some x.1) ∧ (∀ x ∈ xs, x.1.depth ≤ 8) ∧ F a = some (dTN g a xs) ∧ RepVs F ds (xs.map fun x => x.2.2)
  | .ins c ns ds, v => ∃ a dx vs, v = .ref a ∧ ns.length = vs.length ∧ F a = some (.ins (g.ca c) dx (ns.zip vs)) ∧ RepVs F ds vs
def RepVs (F : Hp) : List D → List V → Prop
  | [], vs => vs = []
  | d :: ds, vs => ∃ v r, vs = v :: r ∧ RepV F d v ∧ RepVs F ds r
end

theorem Rd.mono {F F' : Hp} {a : Addr} {u : HO} (h : Le F F') (r : Rd F a u) : Rd F' a u := by
  rcases r with r | ⟨o, r⟩
  · exact .inl (h _ _ r)
  · exact .inr ⟨o, h _ _ r⟩
theorem SqT.mono {K : PySem.W.Frag} {F F' : Hp} {a : Addr} {vs : List V} (h : Le F F') (r : SqT K F a vs) : SqT K F' a vs := by
  rcases r with r | r
  · exact .inl (Rd.mono h r)
  · exact .inr r
theorem SqL.mono {K : PySem.W.Frag} {F F' : Hp} {a : Addr} {vs : List V} (h : Le F F') (r : SqL K F a vs) : SqL K F' a vs := by
  rcases r with r | r
  · exact .inl (Rd.mono h r)
  · exact .inr r

mutual
theorem RepV.mono {F F' : Hp} (h : Le F F') : ∀ (d : D) (v : V), RepV g F d v → RepV g F' d v
  | .non, v, r => by simpa [RepV] using r
  | .bl b, v, r => by simpa [RepV] using r
  | .int i, v, r => by simpa [RepV] using r
  | .str x, v, r => by simpa [RepV] using r
  | .tup ds, v, r => by
    rw [RepV] at r ⊢
    obtain ⟨a, vs, e, q, rs⟩ := r
    exact ⟨a, vs, e, SqT.mono h q, RepVs.mono h ds vs rs⟩
  | .lst ds, v, r => by
    rw [RepV] at r ⊢
    obtain ⟨a, vs, e, q, rs⟩ := r
    exact ⟨a, vs, e, h _ _ q, RepVs.mono h ds vs rs⟩
  | .scr ns, v, r => by
    rw [RepV] at r ⊢
    obtain ⟨a, e, q⟩ := r
    exact ⟨a, e, SqL.mono h q⟩
  | .ty n, v, r => by rw [RepV] at r ⊢; exact r
  | .exn c ns ds, v, r => by
    rw [RepV] at r ⊢
    obtain ⟨x, e1, e2, e3, q⟩ := r
    refine ⟨x, e1, e2, e3, ?_⟩
    rcases q with q | ⟨dd, us, h1, h2, h3, rs⟩
    · exact .inl q
    · exact .inr ⟨dd, us, h1, h _ _ h2, h3, RepVs.mono h ds us rs⟩
  | .dct false ks ds, v, r => by
    rw [RepV] at r ⊢
    obtain ⟨a, us, e, q, rs⟩ := r
    refine ⟨a, us, e, ?_, RepVs.mono h ds us rs⟩
    rcases q with ⟨kk, e1, e2, e3, e4⟩ | q
    · exact .inl ⟨kk, e1, e2, e3, h _ _ e4⟩
    · exact .inr q
  | .dct true ks ds, v, r => by
    rw [RepV] at r ⊢
    obtain ⟨a, xs, e, e2, e3, e4, e5, rs⟩ := r
    exact ⟨a, xs, e, RepVs.mono h ks _ e2, e3, e4, h _ _ e5, RepVs.mono h ds _ rs⟩
  | .ins c ns ds, v, r => by
    rw [RepV] at r ⊢
    obtain ⟨a, dx, vs, e, l, q, rs⟩ := r
    exact ⟨a, dx, vs, e, l, h _ _ q, RepVs.mono h ds vs rs⟩
theorem RepVs.mono {F F' : Hp} (h : Le F F') : ∀ (ds : List D) (vs : List V), RepVs g F ds vs → RepVs g F' ds vs
  | [], vs, r => by rw [RepVs] at r ⊢; exact r
  | d :: ds, vs, r => by
    rw [RepVs] at r ⊢
    obtain ⟨v, w, e, r1, r2⟩ := r
    exact ⟨v, w, e, RepV.mono h d v r1, RepVs.mono h ds w r2⟩
end

/-- S is split into two -/
structure Spl (S S1 S2 : Addr → Prop) : Prop where
  l : ∀ a, S1 a → S a
  r : ∀ a, S2 a → S a
  d : ∀ a, S1 a → S2 a → False

mutual
/-- v is o: what is owned stands in H at addresses of S, the rest in F -/
def RepO (H F : Hp) : O → V → (Addr → Prop) → Prop
  | .val d, v, _ => RepV g F d v
  | .lst os, v, S => ∃ a vs, v = .ref a ∧ S a ∧ H a = some (.lst vs) ∧ RepOs H F os vs (fun b => S b ∧ b ≠ a)
  | .dct false ks os, v, S => ∃ a us, v = .ref a ∧ S a ∧ (∃ kk : List Key, ks = kk.map keyD ∧ kk.Nodup ∧ kk.length = us.length ∧ H a = some (.dK (kk.zip us))) ∧ RepOs H F os us (fun b => S b ∧ b ≠ a)
  | .dct true ks os, v, S => ∃ a, ∃ xs : List (NestedKey × Addr × V), v = .ref a ∧ S a ∧ RepVs g F ks (xs.map fun x => .ref x.2.1) ∧ ks.map toNk = xs.map (fun x => some x.1) ∧ (∀ x ∈ xs, x.1.depth ≤ 8) ∧ H a = some (dTN g a xs) ∧ RepOs H F os (xs.map fun x => x.2.2) (fun b => S b ∧ b ≠ a)
  | .ins c ns os, v, S => ∃ a dx vs, v = .ref a ∧ S a ∧ ns.length = vs.length ∧ H a = some (.ins (g.ca c) dx (ns.zip vs)) ∧ RepOs H F os vs (fun b => S b ∧ b ≠ a)
def RepOs (H F : Hp) : List O → List V → (Addr → Prop) → Prop
  | [], vs, _ => vs = []
  | o :: os, vs, S => ∃ v r S1 S2, vs = v :: r ∧ Spl S S1 S2 ∧ RepO H F o v S1 ∧ RepOs H F os r S2
end

mutual
theorem RepO.frame {H F H' F' : Hp} (hF : Le F F') : ∀ (o : O) (v : V) (S S' : Addr → Prop), (∀ a, S a → S' a) → (∀ a, S a → H' a = H a) → RepO g H F o v S → RepO g H' F' o v S'
  | .val d, v, S, S', hs, hh, r => by
    rw [RepO] at r ⊢
    exact RepV.mono g hF d v r
  | .lst os, v, S, S', hs, hh, r => by
    rw [RepO] at r ⊢
    obtain ⟨a, vs, e, sa, q, rs⟩ := r
    exact ⟨a, vs, e, hs a sa, by rw [hh a sa]; exact q, RepOs.frame hF os vs _ _ (fun b hb => ⟨hs b hb.1, hb.2⟩) (fun b hb => hh b hb.1) rs⟩
  | .dct false ks os, v, S, S', hs, hh, r => by
    rw [RepO] at r ⊢
    obtain ⟨a, us, e, sa, ⟨kk, e1, e2, e3, e4⟩, rs⟩ := r
    exact ⟨a, us, e, hs a sa, ⟨kk, e1, e2, e3, by rw [hh a sa]; exact e4⟩, RepOs.frame hF os us _ _ (fun b hb => ⟨hs b hb.1, hb.2⟩) (fun b hb => hh b hb.1) rs⟩
  | .dct true ks os, v, S, S', hs, hh, r => by
    rw [RepO] at r ⊢
    obtain ⟨a, xs, e, sa, e2, e3, e4, e5, rs⟩ := r
    exact ⟨a, xs, e, hs a sa, RepVs.mono g hF ks _ e2, e3, e4, by rw [hh a sa]; exact e5, RepOs.frame hF os _ _ _ (fun b hb => ⟨hs b hb.1, hb.2⟩) (fun b hb => hh b hb.1) rs⟩
  | .ins c ns os, v, S, S', hs, hh, r => by
    rw [RepO] at r ⊢
    obtain ⟨a, dx, vs, e, sa, l, q, rs⟩ := r
    exact ⟨a, dx, vs, e, hs a sa, l, by rw [hh a sa]; exact q, RepOs.frame hF os vs _ _ (fun b hb => ⟨hs b hb.1, hb.2⟩) (fun b hb => hh b hb.1) rs⟩
theorem RepOs.frame {H F H' F' : Hp} (hF : Le F F') : ∀ (os : List O) (vs : List V) (S S' : Addr → Prop), (∀ a, S a → S' a) → (∀ a, S a → H' a = H a) → RepOs g H F os vs S → RepOs g H' F' os vs S'
  | [], vs, S, S', hs, hh, r => by rw [RepOs] at r ⊢; exact r
  | o :: os, vs, S, S', hs, hh, r => by
    rw [RepOs] at r ⊢
    obtain ⟨v, w, S1, S2, e, sp, r1, r2⟩ := r
    exact ⟨v, w, S1, S2, e, ⟨fun a h => hs a (sp.l a h), fun a h => hs a (sp.r a h), sp.d⟩, RepO.frame hF o v S1 S1 (fun _ h => h) (fun a h => hh a (sp.l a h)) r1, RepOs.frame hF os w S2 S2 (fun _ h => h) (fun a h => hh a (sp.r a h)) r2⟩
end
theorem RepO.sup {H F : Hp} {o : O} {v : V} {S S' : Addr → Prop} (hs : ∀ a, S a → S' a) (r : RepO g H F o v S) : RepO g H F o v S' := RepO.frame g (Le.refl F) o v S S' hs (fun _ _ => rfl) r
theorem RepOs.sup {H F : Hp} {os : List O} {vs : List V} {S S' : Addr → Prop} (hs : ∀ a, S a → S' a) (r : RepOs g H F os vs S) : RepOs g H F os vs S' := RepOs.frame g (Le.refl F) os vs S S' hs (fun _ _ => rfl) r

/-! what is owned is given away for good -/
mutual
def fz : O → D
  | .val d => d
  | .lst os => .lst (fzs os)
  | .dct t ks os => .dct t ks (fzs os)
  | .ins c ns os => .ins c ns (fzs os)
def fzs : List O → List D
  | [] => []
  | o :: os => fz o :: fzs os
end
mutual
theorem RepO.fz {H F F' : Hp} (hF : Le F F') : ∀ (o : O) (v : V) (S : Addr → Prop), (∀ a u, S a → H a = some u → F' a = some u) → RepO g H F o v S → RepV g F' (fz o) v
  | .val d, v, S, hs, r => by
    rw [RepO] at r
    rw [PF.fz]
    exact RepV.mono g hF d v r
  | .lst os, v, S, hs, r => by
    rw [RepO] at r
    rw [PF.fz, RepV]
    obtain ⟨a, vs, e, sa, q, rs⟩ := r
    exact ⟨a, vs, e, hs a _ sa q, RepOs.fz hF os vs _ (fun b u hb hu => hs b u hb.1 hu) rs⟩
  | .dct false ks os, v, S, hs, r => by
    rw [RepO] at r
    rw [PF.fz, RepV]
    obtain ⟨a, us, e, sa, ⟨kk, e1, e2, e3, e4⟩, rs⟩ := r
    exact ⟨a, us, e, .inl ⟨kk, e1, e2, e3, hs a _ sa e4⟩, RepOs.fz hF os us _ (fun b u hb hu => hs b u hb.1 hu) rs⟩
  | .dct true ks os, v, S, hs, r => by
    rw [RepO] at r
    rw [PF.fz, RepV]
    obtain ⟨a, xs, e, sa, e2, e3, e4, e5, rs⟩ := r
    exact ⟨a, xs, e, RepVs.mono g hF ks _ e2, e3, e4, hs a _ sa e5, RepOs.fz hF os _ _ (fun b u hb hu => hs b u hb.1 hu) rs⟩
  | .ins c ns os, v, S, hs, r => by
    rw [RepO] at r
    rw [PF.fz, RepV]
    obtain ⟨a, dx, vs, e, sa, l, q, rs⟩ := r
    exact ⟨a, dx, vs, e, l, hs a _ sa q, RepOs.fz hF os vs _ (fun b u hb hu => hs b u hb.1 hu) rs⟩
theorem RepOs.fz {H F F' : Hp} (hF : Le F F') : ∀ (os : List O) (vs : List V) (S : Addr → Prop), (∀ a u, S a → H a = some u → F' a = some u) → RepOs g H F os vs S → RepVs g F' (fzs os) vs
  | [], vs, S, hs, r => by rw [RepOs] at r; rw [PF.fzs, RepVs]; exact r
  | o :: os, vs, S, hs, r => by
    rw [RepOs] at r
    rw [PF.fzs, RepVs]
    obtain ⟨v, w, S1, S2, e, sp, r1, r2⟩ := r
    exact ⟨v, w, e, RepO.fz hF o v S1 (fun b u hb hu => hs b u (sp.l b hb) hu) r1, RepOs.fz hF os w S2 (fun b u hb hu => hs b u (sp.r b hb) hu) r2⟩
end

/-! ### a list of owned things, beside what is frozen and what must stay -/
def RepL (H F : Hp) : List (V × O) → (Addr → Prop) → Prop
  | [], _ => True
  | p :: L, S => ∃ S1 S2, Spl S S1 S2 ∧ RepO g H F p.2 p.1 S1 ∧ RepL H F L S2
theorem RepL.frame {H F H' F' : Hp} (hF : Le F F') : ∀ (L : List (V × O)) (S S' : Addr → Prop), (∀ a, S a → S' a) → (∀ a, S a → H' a = H a) → RepL g H F L S → RepL g H' F' L S'
  | [], _, _, _, _, _ => trivial
  | p :: L, S, S', hs, hh, ⟨S1, S2, sp, r1, r2⟩ => ⟨S1, S2, ⟨fun a h => hs a (sp.l a h), fun a h => hs a (sp.r a h), sp.d⟩, RepO.frame g hF _ _ S1 S1 (fun _ h => h) (fun a h => hh a (sp.l a h)) r1,
      RepL.frame hF L S2 S2 (fun _ h => h) (fun a h => hh a (sp.r a h)) r2⟩
theorem RepL.perm {H F : Hp} {L L' : List (V × O)} (p : L.Perm L') : ∀ {S : Addr → Prop}, RepL g H F L S → RepL g H F L' S := by
  induction p with
  | nil => intro S h; exact h
  | cons x p ih => intro S ⟨S1, S2, sp, r1, r2⟩; exact ⟨S1, S2, sp, r1, ih r2⟩
  | swap x y l =>
    intro S ⟨S1, S2, sp, r1, S3, S4, sp2, r3, r4⟩
    refine ⟨S3, fun a => S1 a ∨ S4 a, ⟨fun a h => sp.r a (sp2.l a h), fun a h => h.elim (sp.l a) (fun h => sp.r a (sp2.r a h)), fun a h1 h2 => h2.elim (fun h2 => sp.d a h2 (sp2.l a h1)) (fun h2 => sp2.d a h1 h2)⟩, r3,
      S1, S4, ⟨fun a h => .inl h, fun a h => .inr h, fun a h1 h2 => sp.d a h1 (sp2.r a h2)⟩, r1, r4⟩
  | trans _ _ ih1 ih2 => intro S h; exact ih2 (ih1 h)
theorem RepL.split {H F : Hp} : ∀ (A B : List (V × O)) (S : Addr → Prop), RepL g H F (A ++ B) S → ∃ S1 S2, Spl S S1 S2 ∧ RepL g H F A S1 ∧ RepL g H F B S2
  | [], B, S, h => ⟨fun _ => False, S, ⟨fun _ h => h.elim, fun _ h => h, fun _ h _ => h⟩, trivial, h⟩
  | p :: A, B, S, ⟨S1, S2, sp, r1, r2⟩ => by
    obtain ⟨S3, S4, sp2, r3, r4⟩ := RepL.split A B S2 r2
    exact ⟨fun a => S1 a ∨ S3 a, S4, ⟨fun a h => h.elim (sp.l a) (fun h => sp.r a (sp2.l a h)), fun a h => sp.r a (sp2.r a h), fun a h1 h2 => h1.elim (fun h1 => sp.d a h1 (sp2.r a h2)) (fun h1 => sp2.d a h1 h2)⟩,
      ⟨S1, S3, ⟨fun a h => .inl h, fun a h => .inr h, fun a h1 h2 => sp.d a h1 (sp2.l a h2)⟩, r1, r3⟩, r4⟩
theorem RepL.join {H F : Hp} : ∀ (A B : List (V × O)) (S S1 S2 : Addr → Prop), Spl S S1 S2 → RepL g H F A S1 → RepL g H F B S2 → RepL g H F (A ++ B) S
  | [], B, S, S1, S2, sp, _, h => RepL.frame g (Le.refl F) B S2 S (fun a h => sp.r a h) (fun _ _ => rfl) h
  | p :: A, B, S, S1, S2, sp, ⟨S3, S4, sp2, r1, r2⟩, h => by
    refine ⟨S3, fun a => S4 a ∨ S2 a, ⟨fun a h => sp.l a (sp2.l a h), fun a h => h.elim (fun h => sp.l a (sp2.r a h)) (sp.r a), fun a h1 h2 => h2.elim (sp2.d a h1) (fun h2 => sp.d a (sp2.l a h1) h2)⟩, r1, ?_⟩
    exact RepL.join A B _ S4 S2 ⟨fun a h => .inl h, fun a h => .inr h, fun a h1 h2 => sp.d a (sp2.r a h1) h2⟩ r2 h

/-- the tables of code objects: each stands by itself; its code objects are frozen -/
def TbOk (H F Gx : Hp) (S : Addr → Prop) : Prop := ∀ p ∈ g.ca.tb, F p.1 = none ∧ Gx p.1 = none ∧ ¬ S p.1 ∧ ∃ ps : Array Value, H p.1 = some (.tbl ps) ∧ TriplesOk ps.toList ∧ ∀ (pos : Pos) (cv : Value), codeAmong pos ps.toList = some cv → ∃ c, cv = .ref c ∧ F c = some (LamX.CodeO c p.2)
section
variable {g}
theorem TbOk.sub {H F Gx : Hp} {S S' : Addr → Prop} (t : TbOk g H F Gx S) (h : ∀ a, S' a → S a) : TbOk g H F Gx S' := fun p hp => by
  obtain ⟨a, b, c, d⟩ := t p hp
  exact ⟨a, b, fun q => c (h _ q), d⟩
theorem TbOk.fresh {H F Gx : Hp} {S : Addr → Prop} {q : Addr} {u : HO} (t : TbOk g H F Gx S) (hq : H q = none) : TbOk g (upd H q u) F Gx (fun a => a = q ∨ S a) := fun p hp => by
  obtain ⟨a, b, c, ps, d, e, f⟩ := t p hp
  have ne : p.1 ≠ q := fun z => by rw [z, hq] at d; cases d
  exact ⟨a, b, fun z => z.elim ne c, ps, by rw [upd_ne ne]; exact d, e, f⟩
theorem TbOk.freshF {H F Gx : Hp} {S : Addr → Prop} {q : Addr} {u : HO} (t : TbOk g H F Gx S) (hq : H q = none) (hF : F q = none) : TbOk g (upd H q u) (upd F q u) Gx S := fun p hp => by
  obtain ⟨a, b, c, ps, d, e, f⟩ := t p hp
  have ne : p.1 ≠ q := fun z => by rw [z, hq] at d; cases d
  refine ⟨by rw [upd_ne ne]; exact a, b, c, ps, by rw [upd_ne ne]; exact d, e, fun pos cv hc => ?_⟩
  obtain ⟨k, e1, e2⟩ := f pos cv hc
  exact ⟨k, e1, by rw [upd_ne (fun z => by rw [z, hF] at e2; cases e2)]; exact e2⟩
theorem TbOk.wr {H F Gx : Hp} {S : Addr → Prop} {q : Addr} {u : HO} (t : TbOk g H F Gx S) (hq : S q) : TbOk g (upd H q u) F Gx S := fun p hp => by
  obtain ⟨a, b, c, ps, d, e, f⟩ := t p hp
  have ne : p.1 ≠ q := fun z => c (by rw [z]; exact hq)
  exact ⟨a, b, c, ps, by rw [upd_ne ne]; exact d, e, f⟩
end
/-- H: the heap; F: what never changes, and may be reached; Gx: what must stay as it is, and isn't reached; L: what is owned -/
structure Good (H F Gx : Hp) (L : List (V × O)) : Prop where
  ex : ∃ S : Addr → Prop, TbOk g H F Gx S ∧ Le F H ∧ Le Gx H ∧ (∀ a o, Gx a = some o → F a = none) ∧ (∀ a, S a → F a = none ∧ Gx a = none ∧ ∃ o, H a = some o) ∧ RepL g H F L S
variable {g}
theorem Good.leF {H F Gx : Hp} {L : List (V × O)} (h : Good g H F Gx L) : Le F H := let ⟨_, _, h1, _⟩ := h.ex; h1
theorem Good.leG {H F Gx : Hp} {L : List (V × O)} (h : Good g H F Gx L) : Le Gx H := let ⟨_, _, _, h1, _⟩ := h.ex; h1
theorem Good.perm {H F Gx : Hp} {L L' : List (V × O)} (h : Good g H F Gx L) (p : L.Perm L') : Good g H F Gx L' := by
  obtain ⟨S, t, a, b, c, d, e⟩ := h.ex
  exact ⟨S, t, a, b, c, d, RepL.perm g p e⟩
theorem Good.dropL {H F Gx : Hp} {A B : List (V × O)} (h : Good g H F Gx (A ++ B)) : Good g H F Gx B := by
  obtain ⟨S, t, a, b, c, d, e⟩ := h.ex
  obtain ⟨S1, S2, sp, r1, r2⟩ := RepL.split g A B S e
  exact ⟨S2, t.sub sp.r, a, b, c, fun a h => d a (sp.r a h), r2⟩
theorem Good.drop1 {H F Gx : Hp} {p : V × O} {B : List (V × O)} (h : Good g H F Gx (p :: B)) : Good g H F Gx B := Good.dropL (A := [p]) h
theorem Good.dropR {H F Gx : Hp} {A B : List (V × O)} (h : Good g H F Gx (A ++ B)) : Good g H F Gx A := Good.dropL (h.perm List.perm_append_comm)
/-- A alone, B laid aside -/
theorem Good.aside {H F Gx : Hp} {A B : List (V × O)} (h : Good g H F Gx (A ++ B)) : ∃ Gx', Good g H F Gx' A ∧ ∀ H' F' A', Le F F' → Good g H' F' Gx' A' → Good g H' F' Gx (A' ++ B) := by
  classical
  obtain ⟨S, hT, hF, hG, hFG, hS, hL⟩ := h.ex
  obtain ⟨SA, SB, sp, rA, rB⟩ := RepL.split g A B S hL
  refine ⟨fun a => if SB a then H a else Gx a, ⟨SA, fun p hp => ?_, hF, fun a o e => ?_, fun a o e => ?_, fun a h => ?_, rA⟩, fun H' F' A' hFF h' => ?_⟩
  · obtain ⟨t1, t2, t3, t4⟩ := hT p hp
    exact ⟨t1, by show (if SB p.1 then H p.1 else Gx p.1) = none; rw [if_neg (fun z => t3 (sp.r _ z))]; exact t2, fun z => t3 (sp.l _ z), t4⟩
  · by_cases hb : SB a
    · simpa [hb] using e
    · simp only [hb, if_false] at e; exact hG a o e
  · by_cases hb : SB a
    · exact (hS a (sp.r a hb)).1
    · simp only [hb, if_false] at e; exact hFG a o e
  · have nb : ¬ SB a := fun q => sp.d a h q
    simp only [nb, if_false]
    exact hS a (sp.l a h)
  · obtain ⟨S', hT', hF', hG', hFG', hS', hL'⟩ := h'.ex
    have key : ∀ a, SB a → H' a = H a ∧ F' a = none := fun a hb => by
      obtain ⟨_, _, o, ho⟩ := hS a (sp.r a hb)
      have q : (if SB a then H a else Gx a) = some o := by rw [if_pos hb]; exact ho
      exact ⟨(hG' a o q).trans ho.symm, hFG' a o q⟩
    have nb : ∀ a, S' a → ¬ SB a := fun a h hb => by
      obtain ⟨_, _, o, ho⟩ := hS a (sp.r a hb)
      have q := (hS' a h).2.1
      rw [if_pos hb, ho] at q
      cases q
    refine ⟨fun a => S' a ∨ SB a, fun p hp => ?_, hF', fun a o e => ?_, fun a o e => ?_, fun a h => ?_, ?_⟩
    · obtain ⟨t1, t2, t3, t4⟩ := hT' p hp
      obtain ⟨u1, u2, u3, u4⟩ := hT p hp
      exact ⟨t1, u2, fun z => z.elim t3 fun z => u3 (sp.r _ z), t4⟩
    · by_cases hb : SB a
      · rw [(hS a (sp.r a hb)).2.1] at e; cases e
      · exact hG' a o (by show (if SB a then H a else Gx a) = some o; rw [if_neg hb]; exact e)
    · by_cases hb : SB a
      · exact (key a hb).2
      · exact hFG' a o (by rw [if_neg hb]; exact e)
    · rcases h with h | h
      · obtain ⟨x, y, z⟩ := hS' a h
        rw [if_neg (nb a h)] at y
        exact ⟨x, y, z⟩
      · obtain ⟨x, y, z⟩ := hS a (sp.r a h)
        obtain ⟨k1, k2⟩ := key a h
        exact ⟨k2, y, by rw [k1]; exact z⟩
    · exact RepL.join g A' B _ S' SB ⟨fun a h => .inl h, fun a h => .inr h, fun a h1 h2 => nb a h1 h2⟩ hL' (RepL.frame g hFF B SB SB (fun _ h => h) (fun a h => (key a h).1) rB)
/-- an owned thing is given away -/
theorem Good.freeze {H F Gx : Hp} {v : V} {o : O} {B : List (V × O)} (h : Good g H F Gx ((v, o) :: B)) : ∃ F', Le F F' ∧ Good g H F' Gx ((v, .val (fz o)) :: B) := by
  classical
  obtain ⟨S, hT, hF, hG, hFG, hS, S1, S2, sp, r1, r2⟩ := h.ex
  have le : Le F (fun a => if S1 a then H a else F a) := fun a u e => by
    have n1 : ¬ S1 a := fun q => by
      rw [(hS a (sp.l a q)).1] at e; cases e
    show (if S1 a then H a else F a) = some u
    rw [if_neg n1]; exact e
  refine ⟨fun a => if S1 a then H a else F a, le, ⟨S2, fun p hp => ?_, fun a u e => ?_, hG, fun a u e => ?_, fun a h => ?_, fun _ => False, S2, ⟨fun _ h => h.elim, fun _ h => h, fun _ h _ => h⟩, ?_, ?_⟩⟩
  · obtain ⟨t1, t2, t3, ps, t4, t5, t6⟩ := hT p hp
    refine ⟨by show (if S1 p.1 then H p.1 else F p.1) = none; rw [if_neg (fun z => t3 (sp.l _ z))]; exact t1, t2, fun z => t3 (sp.r _ z), ps, t4, t5, fun pos cv hc => ?_⟩
    obtain ⟨c, e1, e2⟩ := t6 pos cv hc
    exact ⟨c, e1, le _ _ e2⟩
  · by_cases q : S1 a
    · simpa [q] using e
    · simp only [q, if_false] at e; exact hF a u e
  · have n1 : ¬ S1 a := fun q => by
      rw [(hS a (sp.l a q)).2.1] at e; cases e
    show (if S1 a then H a else F a) = none
    rw [if_neg n1]
    exact hFG a u e
  · have n1 : ¬ S1 a := fun q => sp.d a q h
    rw [if_neg n1]
    exact hS a (sp.r a h)
  · rw [RepO]
    exact RepO.fz g le o v S1 (fun a u hs hu => by rw [if_pos hs]; exact hu) r1
  · exact RepL.frame g le B S2 S2 (fun _ h => h) (fun _ _ => rfl) r2
/-- a look at an owned thing -/
theorem Good.view {H F Gx : Hp} {v : V} {o : O} {B : List (V × O)} (h : Good g H F Gx ((v, o) :: B)) : ∃ S, RepO g H F o v S := by
  obtain ⟨S, _, _, _, _, _, S1, S2, sp, r1, r2⟩ := h.ex
  exact ⟨S1, r1⟩
theorem Good.val {H F Gx : Hp} {v : V} {d : D} {B : List (V × O)} (h : Good g H F Gx ((v, .val d) :: B)) : RepV g F d v := by
  obtain ⟨S, r⟩ := h.view
  rw [RepO] at r
  exact r
theorem Good.ofVal {H F Gx : Hp} {v : V} {d : D} {B : List (V × O)} (h : Good g H F Gx B) (r : RepV g F d v) : Good g H F Gx ((v, .val d) :: B) := by
  obtain ⟨S, t, a, b, c, d, e⟩ := h.ex
  exact ⟨S, t, a, b, c, d, fun _ => False, S, ⟨fun _ h => h.elim, fun _ h => h, fun _ h _ => h⟩, by rw [RepO]; exact r, e⟩
/-- a new frozen thing -/
theorem Good.newF {H F Gx : Hp} {p : Addr} {u : HO} {B : List (V × O)} (h : Good g H F Gx B) (hp : H p = none) : Le F (upd F p u) ∧ Good g (upd H p u) (upd F p u) Gx B := by
  obtain ⟨S, hT, hF, hG, hFG, hS, hL⟩ := h.ex
  have nF : F p = none := by
    cases q : F p with
    | none => rfl
    | some o => rw [hF p o q] at hp; cases hp
  have nG : Gx p = none := by
    cases q : Gx p with
    | none => rfl
    | some o => rw [hG p o q] at hp; cases hp
  have nS : ∀ a, S a → a ≠ p := fun a h e => by
    subst e
    obtain ⟨_, _, o, ho⟩ := hS a h
    rw [ho] at hp; cases hp
  have le : Le F (upd F p u) := fun a o e => by
    rw [upd_ne (fun q => by subst q; rw [nF] at e; cases e)]; exact e
  refine ⟨le, ⟨S, hT.freshF hp nF, fun a o e => ?_, fun a o e => ?_, fun a o e => ?_, fun a h => ?_, RepL.frame g le B S S (fun _ h => h) (fun a h => upd_ne (nS a h)) hL⟩⟩
  · by_cases q : a = p
    · subst q; rw [upd_same] at e ⊢; exact e
    · rw [upd_ne q] at e ⊢; exact hF a o e
  · rw [upd_ne (fun q => by subst q; rw [nG] at e; cases e)]; exact hG a o e
  · rw [upd_ne (fun q => by subst q; rw [nG] at e; cases e)]; exact hFG a o e
  · rw [upd_ne (nS a h), upd_ne (nS a h)]; exact hS a h
end
end PF

set_option Elab.async false
set_option linter.all false
set_option maxRecDepth 100000
set_option maxHeartbeats 1000000
namespace PF
open PySem PySem.Spec PyProof.Rows L2

/-! ### runs over slots -/
abbrev Sls := List (Option O)
/-- an exception: its class, its fields -/
structure Exn where
  cls : Nat
  ns : List Str
  vs : List D
inductive Rz (α : Type) where
  | ok (a : α) | ex (e : Exn)
def M (α : Type) : Type := Sls → Option (Rz α × Sls)
namespace M
variable {α β : Type}
def pure (a : α) : M α := fun ρ => some (.ok a, ρ)
def bind (m : M α) (f : α → M β) : M β := fun ρ => match m ρ with
  | none => none
  | some (.ex e, ρ') => some (.ex e, ρ')
  | some (.ok a, ρ') => f a ρ'
def of (o : Option α) : M α := fun ρ => match o with
  | none => none
  | some a => some (.ok a, ρ)
def stuck : M α := fun _ => none
def raise (e : Exn) : M α := fun ρ => some (.ex e, ρ)
def map (f : α → β) (m : M α) : M β := m.bind fun a => pure (f a)
theorem bind_assoc {γ : Type} (m : M α) (f : α → M β) (k : β → M γ) : (m.bind f).bind k = m.bind fun a => (f a).bind k := by
  funext ρ
  unfold bind
  cases m ρ with
  | none => rfl
  | some p =>
    obtain ⟨r, ρ'⟩ := p
    cases r <;> rfl
theorem pure_bind (a : α) (f : α → M β) : (pure a).bind f = f a := rfl
theorem bind_pure (m : M α) : m.bind pure = m := by
  funext ρ
  unfold bind
  cases m ρ with
  | none => rfl
  | some p =>
    obtain ⟨r, ρ'⟩ := p
    cases r <;> rfl
theorem raise_bind (e : Exn) (f : α → M β) : (raise e : M α).bind f = raise e := rfl
theorem stuck_bind (f : α → M β) : (stuck : M α).bind f = stuck := rfl
end M
instance : Monad M where
  pure := M.pure
  bind := M.bind

def slL : L2.St → Sls → List (V × O)
  | some v :: σ, some o :: ρ => (v, o) :: slL σ ρ
  | _ :: σ, _ :: ρ => slL σ ρ
  | _, _ => []
def SlW (σ : L2.St) (ρ : Sls) : Prop := ∀ (i : Nat) (o : O), ρ[i]? = some (some o) → ∃ v : V, σ[i]? = some (some v)

theorem slL_none : ∀ (σ : L2.St) (ρ : Sls) (s : Option V), slL (s :: σ) (none :: ρ) = slL σ ρ
  | _, _, none => rfl
  | _, _, some _ => rfl
theorem slL_drop : ∀ (σ : L2.St) (ρ : Sls) (s : Option O), slL (none :: σ) (s :: ρ) = slL σ ρ
  | _, _, none => rfl
  | _, _, some _ => rfl
theorem slL_get : ∀ {σ : L2.St} {ρ : Sls} {i : Nat} {v : V} {o : O}, σ[i]? = some (some v) → ρ[i]? = some (some o) → (slL σ ρ).Perm ((v, o) :: slL σ (ρ.set i none))
  | [], _, i, v, o, h, _ => by simp at h
  | _ :: _, [], i, v, o, _, h => by simp at h
  | s :: σ, r :: ρ, 0, v, o, h1, h2 => by
    simp at h1 h2
    subst h1 h2
    rw [List.set_cons_zero, slL_none]
    exact .refl _
  | s :: σ, r :: ρ, i + 1, v, o, h1, h2 => by
    have ih := slL_get (σ := σ) (ρ := ρ) (i := i) (v := v) (o := o) (by simpa using h1) (by simpa using h2)
    rw [List.set_cons_succ]
    cases s with
    | none => rw [slL_drop, slL_drop]; exact ih
    | some w =>
      cases r with
      | none => rw [slL_none, slL_none]; exact ih
      | some p => exact (ih.cons (w, p)).trans (.swap _ _ _)
theorem slL_hole : ∀ (σ : L2.St) (ρ : Sls) (i : Nat) (s : Option V), slL (σ.set i s) (ρ.set i none) = slL σ (ρ.set i none)
  | [], _, _, _ => by simp
  | _ :: _, [], i, s => by cases i <;> simp [slL]
  | t :: σ, r :: ρ, 0, s => by rw [List.set_cons_zero, List.set_cons_zero, slL_none, slL_none]
  | t :: σ, r :: ρ, i + 1, s => by
    have ih := slL_hole σ ρ i s
    rw [List.set_cons_succ, List.set_cons_succ]
    cases t with
    | none => rw [slL_drop, slL_drop, ih]
    | some w =>
      cases r with
      | none => rw [slL_none, slL_none, ih]
      | some p => show (w, p) :: slL (σ.set i s) (ρ.set i none) = (w, p) :: slL σ (ρ.set i none); rw [ih]
theorem slL_set {σ : L2.St} {ρ : Sls} {i : Nat} (v : V) (o : O) (h1 : i < σ.length) (h2 : i < ρ.length) : (slL (σ.set i (some v)) (ρ.set i (some o))).Perm ((v, o) :: slL σ (ρ.set i none)) := by
  have h := slL_get (σ := σ.set i (some v)) (ρ := ρ.set i (some o)) (i := i) (v := v) (o := o) (by simp [h1]) (by simp [h2])
  rw [List.set_set, slL_hole] at h
  exact h
theorem SlW.set {σ : L2.St} {ρ : Sls} {i : Nat} {v : V} {o : O} (w : SlW σ ρ) (h : i < σ.length) : SlW (σ.set i (some v)) (ρ.set i (some o)) := fun j p e => by
  by_cases hj : i = j
  · subst hj; exact ⟨v, by simp [h]⟩
  · rw [List.getElem?_set_ne hj] at e ⊢; exact w j p e
theorem SlW.hole {σ : L2.St} {ρ : Sls} {i : Nat} (w : SlW σ ρ) : SlW σ (ρ.set i none) := fun j p e => by
  by_cases hj : i = j
  · subst hj
    by_cases hl : i < ρ.length
    · simp [hl] at e
    · simp [hl] at e
  · rw [List.getElem?_set_ne hj] at e; exact w j p e
theorem SlW.put {σ : L2.St} {ρ : Sls} {i : Nat} {v : V} {o : O} (w : SlW σ ρ) (h : σ[i]? = some (some v)) : SlW σ (ρ.set i (some o)) := fun j p e => by
  by_cases hj : i = j
  · subst hj; exact ⟨v, h⟩
  · rw [List.getElem?_set_ne hj] at e; exact w j p e

/-- the slots and L are as told -/
structure StG (g : Gv) (H F Gx : Hp) (σ : L2.St) (ρ : Sls) (L : List (V × O)) : Prop where
  wf : SlW σ ρ
  len : σ.length = ρ.length
  gd : Good g H F Gx (L ++ slL σ ρ)
section
variable {g : Gv} {H F Gx : Hp} {σ : L2.St} {ρ : Sls} {L : List (V × O)} {i : Nat} {o : O} {v : V}
theorem StG.lt (h : StG g H F Gx σ ρ L) (e : ρ[i]? = some (some o)) : i < ρ.length := (List.getElem?_eq_some_iff.mp e).1
theorem StG.take (h : StG g H F Gx σ ρ L) (e : ρ[i]? = some (some o)) : ∃ v, σ[i]? = some (some v) ∧ StG g H F Gx σ (ρ.set i none) ((v, o) :: L) := by
  obtain ⟨v, hv⟩ := h.wf i o e
  refine ⟨v, hv, h.wf.hole, by simpa using h.len, h.gd.perm ?_⟩
  exact ((slL_get hv e).append_left L).trans List.perm_middle
theorem StG.putback (h : StG g H F Gx σ ρ ((v, o) :: L)) (hv : σ[i]? = some (some v)) (e : ρ[i]? = some none) : StG g H F Gx σ (ρ.set i (some o)) L := by
  refine ⟨h.wf.put hv, by simpa using h.len, h.gd.perm ?_⟩
  have hl : i < ρ.length := (List.getElem?_eq_some_iff.mp e).1
  have h1 : (ρ.set i (some o)).set i none = ρ := by
    rw [List.set_set]
    refine List.ext_getElem? fun j => ?_
    by_cases hj : i = j
    · subst hj; rw [List.getElem?_set_self hl, e]
    · rw [List.getElem?_set_ne hj]
  have p := slL_get (σ := σ) (ρ := ρ.set i (some o)) (i := i) (v := v) (o := o) hv (by simp [hl])
  rw [h1] at p
  exact (List.perm_middle.symm.trans (p.symm.append_left L))
theorem StG.store (h : StG g H F Gx σ ρ ((v, o) :: L)) (hl : i < ρ.length) : StG g H F Gx (σ.set i (some v)) (ρ.set i (some o)) L := by
  have hs : i < σ.length := by rw [h.len]; exact hl
  refine ⟨h.wf.set hs, by simpa using h.len, ?_⟩
  have g1 : Good g H F Gx ((v, o) :: (L ++ slL σ (ρ.set i none))) := by
    cases e : ρ[i]? with
    | none => exact absurd (List.getElem?_eq_none_iff.mp e) (by omega)
    | some r =>
      cases r with
      | none =>
        have h1 : ρ.set i none = ρ := by
          refine List.ext_getElem? fun j => ?_
          by_cases hj : i = j
          · subst hj; rw [List.getElem?_set_self hl, e]
          · rw [List.getElem?_set_ne hj]
        rw [h1]; exact h.gd
      | some p =>
        obtain ⟨w, _, q⟩ := h.take e
        have q2 : Good g H F Gx ((w, p) :: ((v, o) :: L ++ slL σ (ρ.set i none))) := q.gd
        exact q2.drop1
  exact g1.perm (List.perm_middle.symm.trans ((slL_set v o hs hl).symm.append_left L))
theorem StG.drop1 {p : V × O} (h : StG g H F Gx σ ρ (p :: L)) : StG g H F Gx σ ρ L := ⟨h.wf, h.len, h.gd.drop1⟩
theorem StG.perm {L' : List (V × O)} (h : StG g H F Gx σ ρ L) (p : L.Perm L') : StG g H F Gx σ ρ L' := ⟨h.wf, h.len, h.gd.perm (p.append_right _)⟩
theorem StG.ofVal {d : D} (h : StG g H F Gx σ ρ L) (r : RepV g F d v) : StG g H F Gx σ ρ ((v, .val d) :: L) := ⟨h.wf, h.len, h.gd.ofVal r⟩
theorem StG.peek (h : StG g H F Gx σ ρ L) (e : ρ[i]? = some (some o)) : ∃ v S, σ[i]? = some (some v) ∧ RepO g H F o v S := by
  obtain ⟨v, hv, q⟩ := h.take e
  obtain ⟨S, r⟩ := q.gd.view
  exact ⟨v, S, hv, r⟩
theorem StG.freeze (h : StG g H F Gx σ ρ ((v, o) :: L)) : ∃ F', Le F F' ∧ StG g H F' Gx σ ρ ((v, .val (fz o)) :: L) := by
  obtain ⟨F', le, q⟩ := Good.freeze (B := L ++ slL σ ρ) h.gd
  exact ⟨F', le, h.wf, h.len, q⟩
theorem StG.freezeAt (h : StG g H F Gx σ ρ L) (e : ρ[i]? = some (some o)) : ∃ F' v, Le F F' ∧ σ[i]? = some (some v) ∧ StG g H F' Gx σ (ρ.set i (some (.val (fz o)))) ((v, .val (fz o)) :: L) := by
  obtain ⟨v, hv, q⟩ := h.take e
  obtain ⟨F', le, q2⟩ := q.freeze
  have hl := h.lt e
  have q3 := q2.putback (i := i) hv (by simp [hl])
  rw [List.set_set] at q3
  exact ⟨F', v, le, hv, q3.ofVal (Good.val q2.gd)⟩
theorem StG.newF {p : Addr} {u : HO} (h : StG g H F Gx σ ρ L) (hp : H p = none) : Le F (upd F p u) ∧ StG g (upd H p u) (upd F p u) Gx σ ρ L := by
  obtain ⟨a, b⟩ := h.gd.newF (u := u) hp
  exact ⟨a, h.wf, h.len, b⟩
/-- L laid aside while something runs that keeps the slots' values -/
theorem StG.aside (h : StG g H F Gx σ ρ L) : ∃ Gx', StG g H F Gx' σ ρ [] ∧ ∀ H' F' ρ' L', Le F F' → StG g H' F' Gx' σ ρ' L' → StG g H' F' Gx σ ρ' (L ++ L') := by
  obtain ⟨Gx', q, back⟩ := Good.aside (A := slL σ ρ) (B := L) (h.gd.perm List.perm_append_comm)
  refine ⟨Gx', ⟨h.wf, h.len, q⟩, fun H' F' ρ' L' le q' => ⟨q'.wf, q'.len, ?_⟩⟩
  have z := back H' F' _ le q'.gd
  refine z.perm ?_
  rw [List.append_assoc, List.append_assoc]
  exact (List.perm_append_comm.append_left L').trans (by rw [← List.append_assoc, ← List.append_assoc]; exact List.perm_append_comm.append_right _)
end

/-- how an exception lies -/
def XAt (g : Gv) (F : Hp) (e : Exn) (d : Option Addr) : Prop := (e.ns = [] ∧ d = none) ∨ ∃ dd us, d = some dd ∧ F dd = some (.xd (e.ns.zip us)) ∧ e.ns.length = us.length ∧ RepVs g F e.vs us

/-! ### the readings -/
section
variable (g : Gv) (W : WX)
/-- what a run asks; R: what is wanted of its value, by the heap, the frozen part, the slots behind -/
def Rn {α : Type} (f : M α) (σ : L2.St) (H F Gx : Hp) (ρ : Sls) (R : α → Hp → Hp → Sls → Prop) : Prop := match f ρ with
  | none => False
  | some (.ok a, ρ') => ∀ H' F', Le F F' → R a H' F' ρ'
  | some (.ex e, ρ') => ∀ H' F' d, Le F F' → StG g H' F' Gx σ ρ' [] → XAt g F' e d → W (.ref (g.ca e.cls)) d σ H'
/-- an expression whose value is handed on -/
def T (f : M O) : TE := fun σ H Q => ∃ F Gx ρ, StG g H F Gx σ ρ [] ∧ Rn g W f σ H F Gx ρ fun o H' F' ρ' => ∀ v, StG g H' F' Gx σ ρ' [(v, o)] → Q v H'
/-- one that is looked at -/
def TR (f : M O) : TE := fun σ H Q => ∃ F Gx ρ, StG g H F Gx σ ρ [] ∧ Rn g W f σ H F Gx ρ fun o H' F' ρ' => ∀ v S, StG g H' F' Gx σ ρ' [] → RepO g H' F' o v S → Q v H'
/-- a test -/
def Tt (f : M Bool) : TT := fun σ H Q => ∃ F Gx ρ, StG g H F Gx σ ρ [] ∧ Rn g W f σ H F Gx ρ fun b H' F' ρ' => StG g H' F' Gx σ ρ' [] → Q b H'
/-- arguments that are handed on -/
def TL (f : M (List O)) : TA := fun σ H Q => ∃ F Gx ρ, StG g H F Gx σ ρ [] ∧ Rn g W f σ H F Gx ρ fun os H' F' ρ' => ∀ vs, vs.length = os.length → StG g H' F' Gx σ ρ' (vs.zip os) → Q vs H'
end
section
variable {g : Gv} {W : WX} {X : Cx} {e : Expr} {α β : Type}
theorem PE.imp {t t' : TE} (h : PE X e t) (i : ∀ σ H Q, t' σ H Q → t σ H Q) : PE X e t' := ⟨fun pins s σ H Q I q => h.run pins s σ H Q I (i σ H Q q)⟩
theorem PT.imp {t t' : TT} (h : PT X e t) (i : ∀ σ H Q, t' σ H Q → t σ H Q) : PT X e t' := ⟨fun pins s σ H Q I q => h.run pins s σ H Q I (i σ H Q q)⟩
theorem PW.imp {t t' : TT} (h : PW X e t) (i : ∀ σ H Q, t' σ H Q → t σ H Q) : PW X e t' := ⟨fun wh pins s σ H Q I q => h.run wh pins s σ H Q I (i σ H Q q)⟩
theorem PA.imp {es : List Expr} {t t' : TA} (h : PA X es t) (i : ∀ σ H Q, t' σ H Q → t σ H Q) : PA X es t' := ⟨fun po pins s σ H Q I q => h.run po pins s σ H Q I (i σ H Q q)⟩
theorem Rn.mono {f : M α} {σ : L2.St} {H F Gx : Hp} {ρ : Sls} {R R' : α → Hp → Hp → Sls → Prop} (h : Rn g W f σ H F Gx ρ R) (i : ∀ a H' F' ρ', Le F F' → R a H' F' ρ' → R' a H' F' ρ') : Rn g W f σ H F Gx ρ R' := by
  unfold Rn at h ⊢
  split <;> rename_i q <;> rw [q] at h
  · exact h
  · exact fun H' F' le => i _ _ _ _ le (h H' F' le)
  · exact h
theorem Rn.ok {f : M α} {σ : L2.St} {H F Gx : Hp} {ρ ρ' : Sls} {R : α → Hp → Hp → Sls → Prop} {a : α} (h : Rn g W f σ H F Gx ρ R) (e : f ρ = some (.ok a, ρ')) : ∀ H' F', Le F F' → R a H' F' ρ' := by
  unfold Rn at h; rw [e] at h; exact h
theorem Rn.run {f : M α} {σ : L2.St} {H F Gx : Hp} {ρ : Sls} {R : α → Hp → Hp → Sls → Prop} (h : Rn g W f σ H F Gx ρ R) : ∃ r ρ', f ρ = some (r, ρ') := by
  unfold Rn at h
  cases q : f ρ with
  | none => rw [q] at h; exact h.elim
  | some p => exact ⟨p.1, p.2, rfl⟩
/-- a run behind a run -/
theorem Rn.bind {f : M α} {k : α → M β} {σ : L2.St} {H F Gx : Hp} {ρ : Sls} {R : β → Hp → Hp → Sls → Prop} (h : Rn g W (f.bind k) σ H F Gx ρ R) :
    Rn g W f σ H F Gx ρ fun a H' F' ρ' => Rn g W (k a) σ H' F' Gx ρ' R := by
  unfold Rn M.bind at *
  cases q : f ρ with
  | none => rw [q] at h; exact h
  | some p =>
    obtain ⟨r, ρ'⟩ := p
    rw [q] at h
    cases r with
    | ex e => exact h
    | ok a =>
      intro H' F' le
      show match k a ρ' with | none => False | some (.ok a, ρ') => _ | some (.ex e, ρ') => _
      have h : match k a ρ' with | none => False | some (.ok a, ρ') => ∀ H' F', Le F F' → R a H' F' ρ' | some (.ex e, ρ') => ∀ H' F' d, Le F F' → StG g H' F' Gx σ ρ' [] → XAt g F' e d → W (.ref (g.ca e.cls)) d σ H' := h
      split <;> rename_i q2 <;> rw [q2] at h
      · exact h
      · exact fun H2 F2 le2 => h H2 F2 (le.trans le2)
      · exact fun H2 F2 d le2 => h H2 F2 d (le.trans le2)
/-- what must stay may be more, if it is given back -/
theorem Rn.aside {f : M α} {σ : L2.St} {H F Gx Gx' : Hp} {ρ : Sls} {R : α → Hp → Hp → Sls → Prop} (h : Rn g W f σ H F Gx ρ R) (back : ∀ H' F' ρ', Le F F' → StG g H' F' Gx' σ ρ' [] → StG g H' F' Gx σ ρ' []) : Rn g W f σ H F Gx' ρ R := by
  unfold Rn at h ⊢
  split <;> rename_i q <;> rw [q] at h
  · exact h
  · exact h
  · exact fun H' F' d le st x => h H' F' d le (back H' F' _ le st) x
/-- a run by its value -/
theorem Rn.of {σ : L2.St} {H F Gx : Hp} {ρ : Sls} {R : α → Hp → Hp → Sls → Prop} {o : Option α} (h : Rn g W (M.of o) σ H F Gx ρ R) : ∃ a, o = some a ∧ ∀ H' F', Le F F' → R a H' F' ρ := by
  unfold Rn M.of at h
  cases o with
  | none => exact h.elim
  | some a => exact ⟨a, rfl, h⟩
theorem Rn.pure {σ : L2.St} {H F Gx : Hp} {ρ : Sls} {R : α → Hp → Hp → Sls → Prop} {a : α} (h : Rn g W (M.pure a) σ H F Gx ρ R) : ∀ H' F', Le F F' → R a H' F' ρ := h
/-- handed on, so looked at -/
theorem T.look {f : M O} {σ : L2.St} {H : Hp} {Q : VK} (h : TR g W f σ H Q) : T g W f σ H Q := by
  obtain ⟨F, Gx, ρ, st, r⟩ := h
  refine ⟨F, Gx, ρ, st, r.mono fun o H' F' ρ' le q v st' => ?_⟩
  obtain ⟨S, rv⟩ := Good.view (B := slL σ ρ') st'.gd
  exact q v S st'.drop1 rv
theorem e_look {f : M O} (h : PE X e (T g W f)) : PE X e (TR g W f) := PE.imp h fun _ _ _ => T.look
end
end PF

set_option Elab.async false
set_option linter.all false
set_option maxRecDepth 100000
set_option maxHeartbeats 1000000
namespace PF
open PySem PySem.Spec PyProof.Rows L2

/-- the view of a body's context -/
abbrev gv (X : Cx) (ca : Ca) : Gv := ⟨X.prog, X.w, X.K, ca⟩
def lim : Nat := 10000000
theorem lim_le {n : Nat} (h : n ≤ lim) : n ≤ sizeLine := by rw [sizeLine_eq]; unfold lim at h; omega
theorem lim_lt {n : Nat} (h : n ≤ lim) : n < sizeLine := by rw [sizeLine_eq]; unfold lim at h; omega

/-! ### what is made -/
section
variable {g : Gv} {H F Gx : Hp} {σ : L2.St} {ρ : Sls} {res : O} {Q : VK}
def Yd (g : Gv) (H F Gx : Hp) (σ : L2.St) (ρ : Sls) (res : O) (Q : VK) : Prop := ∀ v H' F', Le F F' → StG g H' F' Gx σ ρ [(v, res)] → Q v H'
theorem Yd.val {d : D} {v : V} (y : Yd g H F Gx σ ρ (.val d) Q) (st : StG g H F Gx σ ρ []) (r : RepV g F d v) : Q v H := y v H F (Le.refl F) (st.ofVal r)
theorem Yd.tup {ds : List D} {vs : List V} (y : Yd g H F Gx σ ρ (.val (.tup ds)) Q) (st : StG g H F Gx σ ρ []) (r : RepVs g F ds vs) : ∀ p, H p = none → Q (.ref p) (upd H p (.tup vs)) := fun p hp => by
  obtain ⟨le, st2⟩ := st.newF (u := .tup vs) hp
  refine y _ _ _ le (st2.ofVal ?_)
  rw [RepV]
  exact ⟨p, vs, rfl, SqT.of upd_same, RepVs.mono g le _ _ r⟩
theorem RepVs.length {g : Gv} {F : Hp} : ∀ {ds : List D} {vs : List V}, RepVs g F ds vs → vs.length = ds.length
  | [], _, h => by rw [RepVs] at h; rw [h]; rfl
  | d :: ds, _, h => by
    rw [RepVs] at h
    obtain ⟨v, r, rfl, _, h⟩ := h
    rw [List.length_cons, List.length_cons, RepVs.length h]
theorem RepVs.os {g : Gv} {H F : Hp} : ∀ {ds : List D} {vs : List V}, RepVs g F ds vs → ∀ S, RepOs g H F (ds.map O.val) vs S
  | [], _, h => fun S => by rw [RepVs] at h; rw [List.map_nil, RepOs]; exact h
  | d :: ds, _, h => fun S => by
    rw [RepVs] at h
    obtain ⟨v, r, rfl, h1, h2⟩ := h
    rw [List.map_cons, RepOs]
    exact ⟨v, r, fun _ => False, S, rfl, ⟨fun _ h => h.elim, fun _ h => h, fun _ h _ => h⟩, by rw [RepO]; exact h1, RepVs.os h2 S⟩
/-- a new owned thing without owned parts -/
theorem Good.newO {L : List (V × O)} {o : O} {p : Addr} {u : HO} (h : Good g H F Gx L) (hp : H p = none) (r : ∀ S, S p → RepO g (upd H p u) F o (.ref p) S) : Good g (upd H p u) F Gx ((.ref p, o) :: L) := by
  obtain ⟨S, hT, hF, hG, hFG, hS, hL⟩ := h.ex
  have nF : F p = none := by
    cases q : F p with
    | none => rfl
    | some o => rw [hF p o q] at hp; cases hp
  have nG : Gx p = none := by
    cases q : Gx p with
    | none => rfl
    | some o => rw [hG p o q] at hp; cases hp
  have nS : ∀ a, S a → a ≠ p := fun a h e => by
    subst e
    obtain ⟨_, _, o, ho⟩ := hS a h
    rw [ho] at hp; cases hp
  refine ⟨fun a => a = p ∨ S a, hT.fresh hp, fun a o e => ?_, fun a o e => ?_, hFG, fun a h => ?_, fun a => a = p, S, ⟨fun _ h => .inl h, fun _ h => .inr h, fun a h1 h2 => nS a h2 h1⟩, r _ rfl, RepL.frame g (Le.refl F) L S S (fun _ h => h) (fun a h => upd_ne (nS a h)) hL⟩
  · rw [upd_ne (fun q => by subst q; rw [nF] at e; cases e)]; exact hF a o e
  · rw [upd_ne (fun q => by subst q; rw [nG] at e; cases e)]; exact hG a o e
  · rcases h with rfl | h
    · exact ⟨nF, nG, _, upd_same⟩
    · rw [upd_ne (nS a h)]; exact hS a h
theorem Yd.lst {ds : List D} {vs : List V} (y : Yd g H F Gx σ ρ (.lst (ds.map O.val)) Q) (st : StG g H F Gx σ ρ []) (r : RepVs g F ds vs) : ∀ p, H p = none → Q (.ref p) (upd H p (.lst vs)) := fun p hp => by
  refine y _ _ _ (Le.refl F) ⟨st.wf, st.len, Good.newO (L := slL σ ρ) st.gd hp fun S hS => ?_⟩
  rw [RepO]
  exact ⟨p, vs, rfl, hS, upd_same, RepVs.os r _⟩
end

/-! ### views -/
/-- the items that are told of a list -/
def valsO : List O → Option (List D)
  | [] => some []
  | .val d :: os => (valsO os).map (d :: ·)
  | _ :: _ => none
def O.dsL : O → Option (List D)
  | .val (.lst ds) => some ds
  | .lst os => valsO os
  | _ => none
def O.dsT : O → Option (List D)
  | .val (.tup ds) => some ds
  | _ => none
section
variable {g : Gv} {H F : Hp}
theorem valsO_ok : ∀ {os : List O} {vs : List V} {S : Addr → Prop} {ds : List D}, RepOs g H F os vs S → valsO os = some ds → RepVs g F ds vs
  | [], vs, S, ds, r, e => by
    rw [valsO] at e; cases e
    rw [RepOs] at r; rw [RepVs]; exact r
  | .val d :: os, vs, S, ds, r, e => by
    rw [RepOs] at r
    obtain ⟨v, w, S1, S2, rfl, sp, r1, r2⟩ := r
    rw [valsO] at e
    obtain ⟨es, e1, rfl⟩ := Option.map_eq_some_iff.mp e
    rw [RepO] at r1
    rw [RepVs]
    exact ⟨v, w, rfl, r1, valsO_ok r2 e1⟩
  | .lst _ :: os, vs, S, ds, r, e => by simp [valsO] at e
  | .dct _ _ _ :: os, vs, S, ds, r, e => by simp [valsO] at e
  | .ins _ _ _ :: os, vs, S, ds, r, e => by simp [valsO] at e
theorem dsL_ok {o : O} {v : V} {S : Addr → Prop} {ds : List D} (le : Le F H) (r : RepO g H F o v S) (e : o.dsL = some ds) : ∃ a vs, v = .ref a ∧ H a = some (.lst vs) ∧ RepVs g F ds vs := by
  cases o with
  | val d =>
    cases d with
    | lst es =>
      rw [O.dsL] at e; cases e
      rw [RepO, RepV] at r
      obtain ⟨a, vs, e, q, rs⟩ := r
      exact ⟨a, vs, e, le _ _ q, rs⟩
    | _ => simp [O.dsL] at e
  | lst os =>
    rw [O.dsL] at e
    rw [RepO] at r
    obtain ⟨a, vs, e1, sa, q, rs⟩ := r
    exact ⟨a, vs, e1, q, valsO_ok rs e⟩
  | _ => simp [O.dsL] at e
theorem dsT_ok {o : O} {v : V} {S : Addr → Prop} {ds : List D} (le : Le F H) (r : RepO g H F o v S) (e : o.dsT = some ds) : ∃ a vs, v = .ref a ∧ SqT g.K H a vs ∧ RepVs g F ds vs := by
  cases o with
  | val d =>
    cases d with
    | tup es =>
      rw [O.dsT] at e; cases e
      rw [RepO, RepV] at r
      obtain ⟨a, vs, e, q, rs⟩ := r
      exact ⟨a, vs, e, SqT.mono le q, rs⟩
    | _ => simp [O.dsT] at e
  | _ => simp [O.dsT] at e
theorem RepVs.app : ∀ {ds es : List D} {vs us : List V}, RepVs g F ds vs → RepVs g F es us → RepVs g F (ds ++ es) (vs ++ us)
  | [], es, vs, us, r, r2 => by rw [RepVs] at r; subst r; exact r2
  | d :: ds, es, vs, us, r, r2 => by
    rw [RepVs] at r
    obtain ⟨v, w, rfl, r1, r3⟩ := r
    rw [List.cons_append, List.cons_append, RepVs]
    exact ⟨v, _, rfl, r1, RepVs.app r3 r2⟩
theorem RepVs.get : ∀ {ds : List D} {vs : List V} {i : Nat} {d : D}, RepVs g F ds vs → ds[i]? = some d → ∃ v, vs[i]? = some v ∧ RepV g F d v
  | [], vs, i, d, r, e => by simp at e
  | x :: ds, vs, 0, d, r, e => by
    rw [RepVs] at r
    obtain ⟨v, w, rfl, r1, r3⟩ := r
    simp at e; subst e
    exact ⟨v, by simp, r1⟩
  | x :: ds, vs, i + 1, d, r, e => by
    rw [RepVs] at r
    obtain ⟨v, w, rfl, r1, r3⟩ := r
    obtain ⟨u, h1, h2⟩ := RepVs.get (i := i) (d := d) r3 (by simpa using e)
    exact ⟨u, by simpa using h1, h2⟩
theorem RepVs.take : ∀ {ds : List D} {vs : List V} (n : Nat), RepVs g F ds vs → RepVs g F (ds.take n) (vs.take n)
  | [], vs, n, r => by rw [RepVs] at r; subst r; simp [RepVs]
  | d :: ds, vs, 0, r => by simp [RepVs]
  | d :: ds, vs, n + 1, r => by
    rw [RepVs] at r
    obtain ⟨v, w, rfl, r1, r3⟩ := r
    rw [List.take_succ_cons, List.take_succ_cons, RepVs]
    exact ⟨v, _, rfl, r1, RepVs.take n r3⟩
theorem RepVs.drop : ∀ {ds : List D} {vs : List V} (n : Nat), RepVs g F ds vs → RepVs g F (ds.drop n) (vs.drop n)
  | [], vs, n, r => by rw [RepVs] at r; subst r; simp [RepVs]
  | d :: ds, vs, 0, r => by simpa using r
  | d :: ds, vs, n + 1, r => by
    rw [RepVs] at r
    obtain ⟨v, w, rfl, r1, r3⟩ := r
    simpa using RepVs.drop n r3
end

/-! ### two operands -/
section
variable (g : Gv) (W : WX)
def T2 (f : M (O × O)) (σ : L2.St) (H : Hp) (R : V → V → Hp → Prop) : Prop := ∃ F Gx ρ, StG g H F Gx σ ρ [] ∧ Rn g W f σ H F Gx ρ fun p H' F' ρ' => ∀ x y S1 S2, StG g H' F' Gx σ ρ' [] → RepO g H' F' p.1 x S1 → RepO g H' F' p.2 y S2 → R x y H'
def Pr (ta tb : TE) (f : M (O × O)) : Prop := ∀ σ H R, T2 g W f σ H R → ta σ H fun x H1 => tb σ H1 fun y H2 => R x y H2
/-- an operand that changes nothing -/
def Sim (tb : TE) (f : M O) : Prop := ∀ σ H F Gx ρ r ρ', StG g H F Gx σ ρ [] → f ρ = some (r, ρ') → ∃ b, r = .ok b ∧ ρ' = ρ ∧ ∃ y S, RepO g H F b y S ∧ ∀ Q : VK, Q y H → tb σ H Q
end
/-- a slot, looked at -/
def pk (i : Nat) : M O := fun ρ => match ρ[i]? with
  | some (some o) => some (.ok o, ρ)
  | _ => none
/-- a slot, handed on -/
def rd (i : Nat) : M O := fun ρ => match ρ[i]? with
  | some (some (.val d)) => some (.ok (.val d), ρ)
  | some (some o) => some (.ok (.val (fz o)), ρ.set i (some (.val (fz o))))
  | _ => none
/-- a slot's thing is moved out -/
def mv (i : Nat) : M O := fun ρ => match ρ[i]? with
  | some (some o) => some (.ok o, ρ.set i none)
  | _ => none
def seq2 (fa fb : M O) : M (O × O) := fa.bind fun a => fb.bind fun b => M.pure (a, b)
def seqP (i : Nat) (fb : M O) : M (O × O) := (pk i).bind fun _ => fb.bind fun b => (pk i).bind fun a => M.pure (a, b)
section
variable {g : Gv} {W : WX} {X : Cx} {ta tb : TE} {fa fb : M O}
theorem pk_some {i : Nat} {ρ ρ' : Sls} {r : Rz O} (h : pk i ρ = some (r, ρ')) : ∃ o, ρ[i]? = some (some o) ∧ r = .ok o ∧ ρ' = ρ := by
  unfold pk at h
  split at h
  · rename_i o q; cases h; exact ⟨o, q, rfl, rfl⟩
  · cases h
theorem Rn.pk {β : Type} {i : Nat} {k : O → M β} {σ : L2.St} {H F Gx : Hp} {ρ : Sls} {R : β → Hp → Hp → Sls → Prop} (h : Rn g W ((PF.pk i).bind k) σ H F Gx ρ R) : ∃ o, ρ[i]? = some (some o) ∧ Rn g W (k o) σ H F Gx ρ R := by
  obtain ⟨r, ρ', e⟩ := h.run
  cases q : PF.pk i ρ with
  | none => unfold M.bind at e; rw [q] at e; cases e
  | some p =>
    obtain ⟨o, h1, h2, h3⟩ := pk_some (r := p.1) (ρ' := p.2) q
    refine ⟨o, h1, ?_⟩
    have h' := h.bind.ok (a := o) (ρ' := ρ) (by rw [q, ← h2, ← h3]) H F (Le.refl F)
    exact h'
theorem pr_tt : Pr g W (T g W fa) (TR g W fb) (seq2 fa fb) := by
  rintro σ H R ⟨F, Gx, ρ, st, r⟩
  refine ⟨F, Gx, ρ, st, r.bind.mono fun a H1 F1 ρ1 le r1 v st1 => ?_⟩
  obtain ⟨Gx', st1', back⟩ := st1.aside
  refine ⟨F1, Gx', ρ1, st1', (r1.aside fun H' F' ρ' le q => (back H' F' ρ' [] le q).drop1).bind.mono fun b H2 F2 ρ2 le2 r2 y S st2 ry => ?_⟩
  have st3 := back H2 F2 ρ2 [] le2 st2
  obtain ⟨S1, rv⟩ := Good.view (B := [] ++ slL σ ρ2) st3.gd
  exact r2.pure H2 F2 (Le.refl _) v y S1 S st3.drop1 rv ry
theorem pr_pt (i : Nat) : Pr g W (tVar i) (TR g W fb) (seqP i fb) := by
  rintro σ H R ⟨F, Gx, ρ, st, r⟩
  obtain ⟨a0, ha0, r⟩ := r.pk
  obtain ⟨v, hv⟩ := st.wf i a0 ha0
  refine ⟨v, hv, F, Gx, ρ, st, r.bind.mono fun b H1 F1 ρ1 le r1 y S st1 ry => ?_⟩
  obtain ⟨a, ha, r1⟩ := r1.pk
  obtain ⟨v', S', hv', rv⟩ := st1.peek ha
  rw [hv] at hv'; cases hv'
  exact r1.pure H1 F1 (Le.refl _) v y S' S st1 rv ry
theorem pr_ts (h : Sim g tb fb) : Pr g W (TR g W fa) tb (seq2 fa fb) := by
  rintro σ H R ⟨F, Gx, ρ, st, r⟩
  refine ⟨F, Gx, ρ, st, r.bind.mono fun a H1 F1 ρ1 le r1 v S st1 rv => ?_⟩
  obtain ⟨r2, ρ2, e2⟩ := r1.run
  cases q : fb ρ1 with
  | none => unfold M.bind at e2; rw [q] at e2; cases e2
  | some p =>
    obtain ⟨b, hb1, hb2, y, S2, ry, hq⟩ := h σ H1 F1 Gx ρ1 p.1 p.2 st1 q
    refine hq _ ?_
    have r3 := r1.bind.ok (a := b) (ρ' := ρ1) (by rw [q, ← hb1, ← hb2]) H1 F1 (Le.refl F1)
    exact r3.pure H1 F1 (Le.refl _) v y S S2 st1 rv ry
theorem sim_var (i : Nat) : Sim g (tVar i) (PF.pk i) := by
  intro σ H F Gx ρ r ρ' st h
  obtain ⟨o, h1, h2, h3⟩ := pk_some h
  obtain ⟨v, S, hv, rv⟩ := st.peek h1
  exact ⟨o, h2, h3, v, S, rv, fun Q q => ⟨v, hv, q⟩⟩
theorem sim_c {d : D} {v : V} (h : ∀ F, RepV g F d v) : Sim g (tC v) (M.pure (.val d)) := by
  intro σ H F Gx ρ r ρ' st e
  cases e
  exact ⟨.val d, rfl, rfl, v, fun _ => False, by rw [RepO]; exact h F, fun Q q => q⟩
end

/-! ### names, constants -/
section
variable {W : WX} {X : Cx} {ca : Ca} {e : Expr} {ta tb : TE}
theorem t_rd {i : Nat} {g : Gv} {σ : L2.St} {H : Hp} {Q : VK} (h : T g W (rd i) σ H Q) : tVar i σ H Q := by
  obtain ⟨F, Gx, ρ, st, r⟩ := h
  obtain ⟨r1, ρ1, e1⟩ := r.run
  cases q : ρ[i]? with
  | none => unfold rd at e1; rw [q] at e1; cases e1
  | some s =>
    cases s with
    | none => unfold rd at e1; rw [q] at e1; cases e1
    | some o =>
      cases o with
      | val d =>
        obtain ⟨v, S, hv, rv⟩ := st.peek q
        have e2 : rd i ρ = some (.ok (.val d), ρ) := by unfold rd; rw [q]
        rw [RepO] at rv
        exact ⟨v, hv, r.ok e2 H F (Le.refl F) v (st.ofVal rv)⟩
      | lst os =>
        obtain ⟨F', v, le, hv, st'⟩ := st.freezeAt q
        have e2 : rd i ρ = some (.ok (.val (fz (.lst os))), ρ.set i (some (.val (fz (.lst os))))) := by unfold rd; rw [q]
        exact ⟨v, hv, r.ok e2 H F' le v st'⟩
      | dct t ks os =>
        obtain ⟨F', v, le, hv, st'⟩ := st.freezeAt q
        have e2 : rd i ρ = some (.ok (.val (fz (.dct t ks os))), ρ.set i (some (.val (fz (.dct t ks os))))) := by unfold rd; rw [q]
        exact ⟨v, hv, r.ok e2 H F' le v st'⟩
      | ins c ns os =>
        obtain ⟨F', v, le, hv, st'⟩ := st.freezeAt q
        have e2 : rd i ρ = some (.ok (.val (fz (.ins c ns os))), ρ.set i (some (.val (fz (.ins c ns os))))) := by unfold rd; rw [q]
        exact ⟨v, hv, r.ok e2 H F' le v st'⟩
theorem e_rd (i : Nat) {g : Gv} (h : PE X e (tVar i)) : PE X e (T g W (rd i)) := PE.imp h fun _ _ _ => t_rd
theorem e_pk (i : Nat) {g : Gv} (h : PE X e (tVar i)) : PE X e (TR g W (pk i)) := PE.imp h fun σ H Q ⟨F, Gx, ρ, st, r⟩ => by
  obtain ⟨r1, ρ1, e1⟩ := r.run
  obtain ⟨o, h1, h2, h3⟩ := pk_some e1
  obtain ⟨v, S, hv, rv⟩ := st.peek h1
  exact ⟨v, hv, r.ok (a := o) (ρ' := ρ) (by rw [e1, h2, h3]) H F (Le.refl F) v S st rv⟩
theorem e_mv (i : Nat) {g : Gv} (h : PE X e (tVar i)) : PE X e (T g W (mv i)) := PE.imp h fun σ H Q ⟨F, Gx, ρ, st, r⟩ => by
  obtain ⟨r1, ρ1, e1⟩ := r.run
  cases q : ρ[i]? with
  | none => unfold mv at e1; rw [q] at e1; cases e1
  | some s =>
    cases s with
    | none => unfold mv at e1; rw [q] at e1; cases e1
    | some o =>
      obtain ⟨v, hv, st'⟩ := st.take q
      have e2 : mv i ρ = some (.ok o, ρ.set i none) := by unfold mv; rw [q]
      exact ⟨v, hv, r.ok e2 H F (Le.refl F) v st'⟩
/-- a constant: what it is stands everywhere -/
theorem e_c {g : Gv} {d : D} {v : V} (h : PE X e (tC v)) (r : ∀ F, RepV g F d v) : PE X e (T g W (M.pure (.val d))) := PE.imp h fun σ H Q ⟨F, Gx, ρ, st, q⟩ => q.pure H F (Le.refl F) v (st.ofVal (r F))
end
end PF

set_option Elab.async false
set_option linter.all false
set_option maxRecDepth 100000
set_option maxHeartbeats 2000000
namespace PF
open PySem PySem.Spec PyProof.Rows L2

/-! ### == of data -/
mutual
def D.eqv : D → D → Bool
  | .non, .non => true
  | .bl a, .bl b => a == b
  | .bl a, .int j => (if a then 1 else 0) == j
  | .int i, .bl b => i == (if b then 1 else 0)
  | .int i, .int j => i == j
  | .str x, .str y => x == y
  | .lst xs, .lst ys => D.eqvs xs ys
  | .tup xs, .tup ys => D.eqvs xs ys
  | _, _ => false
def D.eqvs : List D → List D → Bool
  | [], [] => true
  | x :: xs, y :: ys => D.eqv x y && D.eqvs xs ys
  | _, _ => false
end
mutual
def toPy : D → PyData
  | .non => .none
  | .bl b => .bool b
  | .int i => .int i
  | .str x => .str x
  | .tup xs => .tuple (toPys xs)
  | .lst xs => .list (toPys xs)
  | _ => .none
def toPys : List D → List PyData
  | [] => []
  | x :: xs => toPy x :: toPys xs
end
/-- data whose == is told: to depth n, no dict, no instance -/
def okD : Nat → D → Bool
  | _, .non => true
  | _, .bl _ => true
  | _, .int _ => true
  | _, .str x => PyData.strOk x
  | n + 1, .tup ds => ds.all (okD n)
  | n + 1, .lst ds => ds.all (okD n)
  | _, _ => false
theorem okD_lst {n : Nat} {ds : List D} : okD n (.lst ds) = true ↔ ∃ m, n = m + 1 ∧ ∀ d ∈ ds, okD m d = true := by
  cases n with
  | zero => simp [okD]
  | succ n => simp [okD]
theorem okD_tup {n : Nat} {ds : List D} : okD n (.tup ds) = true ↔ ∃ m, n = m + 1 ∧ ∀ d ∈ ds, okD m d = true := by
  cases n with
  | zero => simp [okD]
  | succ n => simp [okD]
mutual
theorem okD_lay : ∀ (n : Nat) (d : D), okD n d = true → (toPy d).canLay0 = true ∧ (toPy d).depth ≤ n
  | n, .non, _ => by simp [toPy, PyData.canLay0, PyData.depth]
  | n, .bl _, _ => by simp [toPy, PyData.canLay0, PyData.depth]
  | n, .int _, _ => by simp [toPy, PyData.canLay0, PyData.depth]
  | n, .str x, h => by
    have h : PyData.strOk x = true := by cases n <;> simpa [okD] using h
    simp [toPy, PyData.canLay0, PyData.depth, h]
  | n, .tup ds, h => by
    obtain ⟨m, rfl, hm⟩ := okD_tup.mp h
    obtain ⟨a, b⟩ := okDs_lay m ds hm
    simp only [toPy, PyData.canLay0, PyData.depth, a, true_and]; omega
  | n, .lst ds, h => by
    obtain ⟨m, rfl, hm⟩ := okD_lst.mp h
    obtain ⟨a, b⟩ := okDs_lay m ds hm
    simp only [toPy, PyData.canLay0, PyData.depth, a, true_and]; omega
  | n, .dct _ _ _, h => by cases n <;> simp [okD] at h
  | n, .ins _ _ _, h => by cases n <;> simp [okD] at h
  | n, .scr _, h => by cases n <;> simp [okD] at h
  | n, .ty _, h => by cases n <;> simp [okD] at h
  | n, .exn _ _ _, h => by cases n <;> simp [okD] at h
theorem okDs_lay : ∀ (n : Nat) (ds : List D), (∀ d ∈ ds, okD n d = true) → PyData.canLayAll0 (toPys ds) = true ∧ PyData.depthAll (toPys ds) ≤ n
  | n, [], _ => by simp [toPys, PyData.canLayAll0, PyData.depthAll]
  | n, d :: ds, h => by
    obtain ⟨a, b⟩ := okD_lay n d (h d (by simp))
    obtain ⟨a2, b2⟩ := okDs_lay n ds fun x hx => h x (by simp [hx])
    simp only [toPys, PyData.canLayAll0, PyData.depthAll, a, a2, Bool.and_self, true_and]
    exact Nat.max_le.mpr ⟨b, b2⟩
end
theorem okD_shaped {n : Nat} {d : D} (h : okD n d = true) (hn : n ≤ 64) : SeqAt.shaped (toPy d) = true := by
  obtain ⟨a, b⟩ := okD_lay n d h
  unfold SeqAt.shaped
  rw [a, Bool.true_and, decide_eq_true_eq]
  omega
mutual
theorem eqv_py : ∀ (n m : Nat) (a b : D), okD n a = true → okD m b = true → (toPy a).eqv (toPy b) = a.eqv b
  | n, m, .non, b, h, h' => by cases b <;> first | (cases m <;> simp [okD] at h'; done) | simp [toPy, PyData.eqv, D.eqv]
  | n, m, .bl _, b, h, h' => by cases b <;> first | (cases m <;> simp [okD] at h'; done) | simp [toPy, PyData.eqv, D.eqv]
  | n, m, .int _, b, h, h' => by cases b <;> first | (cases m <;> simp [okD] at h'; done) | simp [toPy, PyData.eqv, D.eqv]
  | n, m, .str _, b, h, h' => by cases b <;> first | (cases m <;> simp [okD] at h'; done) | simp [toPy, PyData.eqv, D.eqv]
  | n, m, .tup xs, b, h, h' => by
    cases b with
    | tup ys =>
      obtain ⟨n1, rfl, hn⟩ := okD_tup.mp h
      obtain ⟨m1, rfl, hm'⟩ := okD_tup.mp h'
      rw [toPy, toPy, PyData.eqv, D.eqv]
      exact eqvs_py n1 m1 xs ys hn hm'
    | _ => first | (cases m <;> simp [okD] at h'; done) | simp [toPy, PyData.eqv, D.eqv]
  | n, m, .lst xs, b, h, h' => by
    cases b with
    | lst ys =>
      obtain ⟨n1, rfl, hn⟩ := okD_lst.mp h
      obtain ⟨m1, rfl, hm'⟩ := okD_lst.mp h'
      rw [toPy, toPy, PyData.eqv, D.eqv]
      exact eqvs_py n1 m1 xs ys hn hm'
    | _ => first | (cases m <;> simp [okD] at h'; done) | simp [toPy, PyData.eqv, D.eqv]
  | n, m, .dct _ _ _, b, h, h' => by cases n <;> simp [okD] at h
  | n, m, .ins _ _ _, b, h, h' => by cases n <;> simp [okD] at h
  | n, m, .scr _, b, h, h' => by cases n <;> simp [okD] at h
  | n, m, .ty _, b, h, h' => by cases n <;> simp [okD] at h
  | n, m, .exn _ _ _, b, h, h' => by cases n <;> simp [okD] at h
theorem eqvs_py : ∀ (n m : Nat) (a b : List D), (∀ d ∈ a, okD n d = true) → (∀ d ∈ b, okD m d = true) → PyData.eqvAll (toPys a) (toPys b) = D.eqvs a b
  | n, m, [], [], h, h' => by simp [toPys, PyData.eqvAll, D.eqvs]
  | n, m, [], _ :: _, h, h' => by simp [toPys, PyData.eqvAll, D.eqvs]
  | n, m, _ :: _, [], h, h' => by simp [toPys, PyData.eqvAll, D.eqvs]
  | n, m, x :: xs, y :: ys, h, h' => by
    rw [toPys, toPys, PyData.eqvAll, D.eqvs, eqv_py n m x y (h x (by simp)) (h' y (by simp)), eqvs_py n m xs ys (fun d hd => h d (by simp [hd])) fun d hd => h' d (by simp [hd])]
end
section
variable {g : Gv} {H F : Hp}
mutual
theorem dp_of : ∀ (n : Nat) (d : D) (v : V), Le F H → okD n d = true → RepV g F d v → Dp g.K H v (toPy d)
  | n, .non, v, le, h, r => by rw [RepV] at r; subst r; rw [toPy]; exact .non
  | n, .bl _, v, le, h, r => by rw [RepV] at r; subst r; rw [toPy]; exact .bl _
  | n, .int _, v, le, h, r => by rw [RepV] at r; subst r; rw [toPy]; exact .int _
  | n, .str _, v, le, h, r => by rw [RepV] at r; subst r; rw [toPy]; exact .str _
  | n, .tup ds, v, le, h, r => by
    obtain ⟨m, rfl, hm⟩ := okD_tup.mp h
    rw [RepV] at r
    obtain ⟨a, vs, rfl, q, rs⟩ := r
    rw [toPy]
    exact .tup (SqT.mono le q) (dps_of m ds vs le hm rs)
  | n, .lst ds, v, le, h, r => by
    obtain ⟨m, rfl, hm⟩ := okD_lst.mp h
    rw [RepV] at r
    obtain ⟨a, vs, rfl, q, rs⟩ := r
    rw [toPy]
    exact .lst (SqL.of (le _ _ q)) (dps_of m ds vs le hm rs)
  | n, .dct _ _ _, v, le, h, r => by cases n <;> simp [okD] at h
  | n, .ins _ _ _, v, le, h, r => by cases n <;> simp [okD] at h
  | n, .scr _, v, le, h, r => by cases n <;> simp [okD] at h
  | n, .ty _, v, le, h, r => by cases n <;> simp [okD] at h
  | n, .exn _ _ _, v, le, h, r => by cases n <;> simp [okD] at h
theorem dps_of : ∀ (n : Nat) (ds : List D) (vs : List V), Le F H → (∀ d ∈ ds, okD n d = true) → RepVs g F ds vs → DpAll g.K H vs (toPys ds)
  | n, [], vs, le, h, r => by rw [RepVs] at r; subst r; rw [toPys]; exact .nil
  | n, d :: ds, vs, le, h, r => by
    rw [RepVs] at r
    obtain ⟨v, w, rfl, r1, r2⟩ := r
    rw [toPys]
    exact .cons (dp_of n d v le (h d (by simp)) r1) (dps_of n ds w le (fun x hx => h x (by simp [hx])) r2)
end
mutual
theorem dpO_of : ∀ (n : Nat) (o : O) (v : V) (S : Addr → Prop), Le F H → okD n (fz o) = true → RepO g H F o v S → Dp g.K H v (toPy (fz o))
  | n, .val d, v, S, le, h, r => by
    rw [RepO] at r
    rw [PF.fz] at h ⊢
    exact dp_of n d v le h r
  | n, .lst os, v, S, le, h, r => by
    rw [PF.fz] at h ⊢
    obtain ⟨m, rfl, hm⟩ := okD_lst.mp h
    rw [RepO] at r
    obtain ⟨a, vs, rfl, sa, q, rs⟩ := r
    rw [toPy]
    exact .lst (SqL.of q) (dpOs_of m os vs _ le hm rs)
  | n, .dct _ _ _, v, S, le, h, r => by rw [PF.fz] at h; cases n <;> simp [okD] at h
  | n, .ins _ _ _, v, S, le, h, r => by rw [PF.fz] at h; cases n <;> simp [okD] at h
theorem dpOs_of : ∀ (n : Nat) (os : List O) (vs : List V) (S : Addr → Prop), Le F H → (∀ d ∈ fzs os, okD n d = true) → RepOs g H F os vs S → DpAll g.K H vs (toPys (fzs os))
  | n, [], vs, S, le, h, r => by rw [RepOs] at r; subst r; rw [PF.fzs, toPys]; exact .nil
  | n, o :: os, vs, S, le, h, r => by
    rw [RepOs] at r
    obtain ⟨v, w, S1, S2, rfl, sp, r1, r2⟩ := r
    rw [PF.fzs] at h ⊢
    rw [toPys]
    exact .cons (dpO_of n o v S1 le (h _ (by simp)) r1) (dpOs_of n os w S2 le (fun x hx => h x (by simp [hx])) r2)
end
end

/-! ### rules by values -/
section
variable (g : Gv)
def rB (G : O → O → Option O) : R2 := fun x y H Q => ∃ F Gx σ ρ oa ob S1 S2 res, StG g H F Gx σ ρ [] ∧ RepO g H F oa x S1 ∧ RepO g H F ob y S2 ∧ G oa ob = some res ∧ Yd g H F Gx σ ρ res Q
def rC (C : O → O → Option Bool) : R2 := fun x y H Q => ∃ F oa ob S1 S2 b, Le F H ∧ RepO g H F oa x S1 ∧ RepO g H F ob y S2 ∧ C oa ob = some b ∧ Q (.bl b) H
end
theorem StG.le {g : Gv} {H F Gx : Hp} {σ : L2.St} {ρ : Sls} {L : List (V × O)} (h : StG g H F Gx σ ρ L) : Le F H := h.gd.leF

def addG : O → O → Option O
  | .val (.int i), .val (.int j) => some (.val (.int (i + j)))
  | .val (.str x), .val (.str y) => if x.length + y.length ≤ lim then some (.val (.str (x ++ y))) else none
  | .val (.tup xs), .val (.tup ys) => if xs.length + ys.length ≤ lim then some (.val (.tup (xs ++ ys))) else none
  | a, b => match a.dsL, b.dsL with
    | some xs, some ys => if xs.length + ys.length ≤ lim then some (.lst ((xs ++ ys).map .val)) else none
    | _, _ => none
def subG : O → O → Option O
  | .val (.int i), .val (.int j) => some (.val (.int (i - j)))
  | _, _ => none
@[irreducible] def mulG : O → O → Option O
  | .val (.int i), .val (.int j) => if (-(2 ^ 64) < i ∧ i < 2 ^ 64) ∨ (-(2 ^ 64) < j ∧ j < 2 ^ 64) then some (.val (.int (i * j))) else none
  | .val (.str x), .val (.int j) => none
  | a, .val (.int k) => match a.dsL with
    | some xs => if -(2 ^ 63) ≤ k ∧ k < 2 ^ 63 ∧ xs.length * k.toNat ≤ lim then some (.lst ((List.replicate k.toNat xs).flatten.map .val)) else none
    | _ => none
  | _, _ => none
@[irreducible] def divG : O → O → Option O
  | .val (.int i), .val (.int j) => if 0 < j ∧ j < 2 ^ 64 then some (.val (.int (i / j))) else none
  | _, _ => none
@[irreducible] def modG : O → O → Option O
  | .val (.int i), .val (.int j) => if 0 < j then some (.val (.int (i % j))) else none
  | _, _ => none
@[irreducible] def powG : O → O → Option O
  | .val (.int i), .val (.int j) => if 0 ≤ j ∧ j ≤ 1000 ∧ i.natAbs < 2 ^ 64 then some (.val (.int (i ^ j.toNat))) else none
  | _, _ => none
def eqC (a b : O) : Option Bool := match a, b with
  | .val (.str x), .val (.str y) => some (x == y)
  | a, b => if okD 16 (fz a) && okD 16 (fz b) then some ((fz a).eqv (fz b)) else none
def neC (a b : O) : Option Bool := (eqC a b).map (!·)
def ltC : O → O → Option Bool
  | .val (.int i), .val (.int j) => some (decide (i < j))
  | _, _ => none
def leC : O → O → Option Bool
  | .val (.int i), .val (.int j) => some (decide (i ≤ j))
  | _, _ => none
def gtC : O → O → Option Bool
  | .val (.int i), .val (.int j) => some (decide (j < i))
  | _, _ => none
def geC : O → O → Option Bool
  | .val (.int i), .val (.int j) => some (decide (j ≤ i))
  | _, _ => none
def nonO : O → Bool
  | .val .non => true
  | _ => false
def isC : O → O → Option Bool
  | .val (.bl a), .val (.bl b) => some (decide (a = b))
  | a, .val .non => some (nonO a)
  | _, _ => none
def isNC (a b : O) : Option Bool := (isC a b).map (!·)
/-- in a list, a tuple, a text -/
def inC (a b : O) : Option Bool := match a, b with
  | .val (.str x), .val (.str z) => match x.cps.toList with
    | [c] => some (decide (c ∈ z.cps.toList))
    | _ => none
  | a, b => if okD 16 (fz a) && okD 16 (fz b) then (match fz b with
    | .tup ds => some (ds.any fun z => z.eqv (fz a))
    | .lst ds => some (ds.any fun z => z.eqv (fz a))
    | _ => none) else none
def ninC (a b : O) : Option Bool := (inC a b).map (!·)

section
variable {X : Cx} {ca : Ca}
theorem RepO.intV {g : Gv} {H F : Hp} {i : Int} {x : V} {S : Addr → Prop} (r : RepO g H F (.val (.int i)) x S) : x = .int i := by rw [RepO, RepV] at r; exact r
theorem RepO.strV {g : Gv} {H F : Hp} {i : Str} {x : V} {S : Addr → Prop} (r : RepO g H F (.val (.str i)) x S) : x = .str i := by rw [RepO, RepV] at r; exact r
theorem RepO.blV {g : Gv} {H F : Hp} {i : Bool} {x : V} {S : Addr → Prop} (r : RepO g H F (.val (.bl i)) x S) : x = .bl i := by rw [RepO, RepV] at r; exact r
theorem RepO.nonV {g : Gv} {H F : Hp} {x : V} {S : Addr → Prop} (r : RepO g H F (.val .non) x S) : x = .non := by rw [RepO, RepV] at r; exact r
theorem repI {g : Gv} {F : Hp} {i : Int} : RepV g F (.int i) (.int i) := by rw [RepV]
theorem repS {g : Gv} {F : Hp} {i : Str} : RepV g F (.str i) (.str i) := by rw [RepV]
theorem repB {g : Gv} {F : Hp} {i : Bool} : RepV g F (.bl i) (.bl i) := by rw [RepV]
theorem repN {g : Gv} {F : Hp} : RepV g F .non .non := by rw [RepV]

theorem op_addG : OpR X (binaryOp .Add) (rB (gv X ca) addG) := by
  intro pins s σ H x y v u Q I rx ry ⟨F, Gx, σ', ρ, oa, ob, S1, S2, res, st, ra, rb, e, yd⟩
  unfold addG at e
  split at e
  · cases e
    cases ra.intV; cases rb.intV
    exact op_add pins s σ H _ _ v u Q I rx ry ⟨_, _, rfl, rfl, yd.val st repI⟩
  · split at e
    · rename_i hl
      cases e
      cases ra.strV; cases rb.strV
      exact op_add_str pins s σ H _ _ v u Q I rx ry ⟨_, _, rfl, rfl, lim_le hl, yd.val st repS⟩
    · cases e
  · split at e
    · rename_i xs ys hl
      cases e
      obtain ⟨a, vs, rfl, qa, rva⟩ := dsT_ok st.le ra (ds := xs) rfl
      obtain ⟨b, us, rfl, qb, rvb⟩ := dsT_ok st.le rb (ds := ys) rfl
      have la := rva.length
      have lb := rvb.length
      refine op_catA pins s σ H _ _ v u Q I rx ry ⟨a, b, vs, us, rfl, rfl, qa, qb, lim_le (by omega), fun h0 => ?_, fun h0 h1 => ?_, fun h0 h1 => yd.tup st (rva.app rvb)⟩
      · subst h0
        have : xs = [] := List.eq_nil_of_length_eq_zero (by simpa using la.symm)
        subst this
        rw [List.nil_append] at yd
        rw [RepO] at rb
        exact yd.val st rb
      · subst h1
        have : ys = [] := List.eq_nil_of_length_eq_zero (by simpa using lb.symm)
        subst this
        rw [List.append_nil] at yd
        rw [RepO] at ra
        exact yd.val st ra
    · cases e
  · split at e
    · rename_i xs ys hx hy
      split at e
      · rename_i hl
        cases e
        obtain ⟨a, vs, rfl, qa, rva⟩ := dsL_ok st.le ra hx
        obtain ⟨b, us, rfl, qb, rvb⟩ := dsL_ok st.le rb hy
        have la := rva.length
        have lb := rvb.length
        exact op_cat pins s σ H _ _ v u Q I rx ry ⟨a, b, vs, us, rfl, rfl, qa, qb, lim_le (by omega), yd.lst st (rva.app rvb)⟩
      · cases e
    · cases e
theorem op_subG : OpR X (binaryOp .Sub) (rB (gv X ca) subG) := by
  intro pins s σ H x y v u Q I rx ry ⟨F, Gx, σ', ρ, oa, ob, S1, S2, res, st, ra, rb, e, yd⟩
  unfold subG at e
  split at e
  · cases e
    cases ra.intV; cases rb.intV
    exact op_sub pins s σ H _ _ v u Q I rx ry ⟨_, _, rfl, rfl, yd.val st repI⟩
  · cases e
theorem RepVs.rep {g : Gv} {F : Hp} {ds : List D} {vs : List V} (h : RepVs g F ds vs) : ∀ k : Nat, RepVs g F (List.replicate k ds).flatten (List.replicate k vs).flatten
  | 0 => by simp [RepVs]
  | k + 1 => by
    rw [List.replicate_succ, List.replicate_succ, List.flatten_cons, List.flatten_cons]
    exact h.app (RepVs.rep h k)
theorem op_mulG : OpR X (binaryOp .Mult) (rB (gv X ca) mulG) := by
  intro pins s σ H x y v u Q I rx ry ⟨F, Gx, σ', ρ, oa, ob, S1, S2, res, st, ra, rb, e, yd⟩
  unfold mulG at e
  split at e
  · split at e
    · rename_i hc
      cases e
      cases ra.intV; cases rb.intV
      exact op_mul pins s σ H _ _ v u Q I rx ry ⟨_, _, rfl, rfl, hc, yd.val st repI⟩
    · cases e
  · cases e
  · split at e
    · rename_i xs hx
      split at e
      · rename_i hl
        cases e
        cases rb.intV
        obtain ⟨a, vs, rfl, qa, rva⟩ := dsL_ok st.le ra hx
        have la := rva.length
        exact op_rep pins s σ H _ _ v u Q I rx ry ⟨a, _, vs, rfl, rfl, qa, hl.1, hl.2.1, lim_le (by rw [la]; exact hl.2.2), yd.lst st (rva.rep _)⟩
      · cases e
    · cases e
  · cases e
theorem op_divG : OpR X (binaryOp .FloorDiv) (rB (gv X ca) divG) := by
  intro pins s σ H x y v u Q I rx ry ⟨F, Gx, σ', ρ, oa, ob, S1, S2, res, st, ra, rb, e, yd⟩
  unfold divG at e
  split at e
  · split at e
    · rename_i i j hc
      cases e
      cases ra.intV; cases rb.intV
      exact op_fdivW pins s σ H _ _ v u Q I rx ry ⟨_, _, rfl, rfl, wide_div (b := 64) hc.1 (by omega) (by decide) (by decide), yd.val st repI⟩
    · cases e
  · cases e
theorem op_modG : OpR X (binaryOp .Mod) (rB (gv X ca) modG) := by
  intro pins s σ H x y v u Q I rx ry ⟨F, Gx, σ', ρ, oa, ob, S1, S2, res, st, ra, rb, e, yd⟩
  unfold modG at e
  split at e
  · split at e
    · rename_i hc
      cases e
      cases ra.intV; cases rb.intV
      exact op_mod pins s σ H _ _ v u Q I rx ry ⟨_, _, rfl, rfl, hc, yd.val st repI⟩
    · cases e
  · cases e
theorem op_powG : OpR X (binaryOp .Pow) (rB (gv X ca) powG) := by
  intro pins s σ H x y v u Q I rx ry ⟨F, Gx, σ', ρ, oa, ob, S1, S2, res, st, ra, rb, e, yd⟩
  unfold powG at e
  split at e
  · split at e
    · rename_i hc
      cases e
      cases ra.intV; cases rb.intV
      exact op_pow pins s σ H _ _ v u Q I rx ry ⟨_, _, rfl, rfl, ⟨hc.1, by omega, hc.2.2⟩, yd.val st repI⟩
    · cases e
  · cases e
theorem scal_str (x y : Str) : decide (V.str x = V.str y) = (x == y) := dec_str
theorem op_eqC (hu : X.A.units + 64 < cLine) : OpR X (compareOp .Eq) (rC (gv X ca) eqC) := by
  intro pins s σ H x y v u Q I rx ry ⟨F, oa, ob, S1, S2, b, le, ra, rb, e, q⟩
  unfold eqC at e
  split at e
  · cases e
    cases ra.strV; cases rb.strV
    exact op_eq pins s σ H _ _ v u Q I rx ry ⟨rfl, by rw [scal_str]; exact q⟩
  · split at e
    · rename_i hk
      cases e
      rw [Bool.and_eq_true] at hk
      refine op_eqD hu pins s σ H _ _ v u Q I rx ry ⟨_, _, dpO_of 16 oa x S1 le hk.1 ra, dpO_of 16 ob y S2 le hk.2 rb, okD_shaped hk.1 (by decide), okD_shaped hk.2 (by decide), ?_⟩
      rw [eqv_py 16 16 _ _ hk.1 hk.2]
      exact q
    · cases e
theorem op_neC (hu : X.A.units + 64 < cLine) : OpR X (compareOp .NotEq) (rC (gv X ca) neC) := by
  intro pins s σ H x y v u Q I rx ry ⟨F, oa, ob, S1, S2, b, le, ra, rb, e, q⟩
  unfold neC at e
  obtain ⟨c, e2, eb⟩ := Option.map_eq_some_iff.mp e
  subst eb
  unfold eqC at e2
  split at e2
  · cases e2
    cases ra.strV; cases rb.strV
    exact op_ne pins s σ H _ _ v u Q I rx ry ⟨rfl, by rw [scal_str]; exact q⟩
  · split at e2
    · rename_i hk
      cases e2
      rw [Bool.and_eq_true] at hk
      refine op_neD hu pins s σ H _ _ v u Q I rx ry ⟨_, _, dpO_of 16 oa x S1 le hk.1 ra, dpO_of 16 ob y S2 le hk.2 rb, okD_shaped hk.1 (by decide), okD_shaped hk.2 (by decide), ?_⟩
      rw [eqv_py 16 16 _ _ hk.1 hk.2]
      exact q
    · cases e2
theorem op_ltC : OpR X (compareOp .Lt) (rC (gv X ca) ltC) := by
  intro pins s σ H x y v u Q I rx ry ⟨F, oa, ob, S1, S2, b, le, ra, rb, e, q⟩
  unfold ltC at e
  split at e
  · cases e
    cases ra.intV; cases rb.intV
    exact op_lt pins s σ H _ _ v u Q I rx ry ⟨_, _, rfl, rfl, q⟩
  · cases e
theorem op_leC : OpR X (compareOp .LtE) (rC (gv X ca) leC) := by
  intro pins s σ H x y v u Q I rx ry ⟨F, oa, ob, S1, S2, b, le, ra, rb, e, q⟩
  unfold leC at e
  split at e
  · cases e
    cases ra.intV; cases rb.intV
    exact op_le pins s σ H _ _ v u Q I rx ry ⟨_, _, rfl, rfl, q⟩
  · cases e
theorem op_gtC : OpR X (compareOp .Gt) (rC (gv X ca) gtC) := by
  intro pins s σ H x y v u Q I rx ry ⟨F, oa, ob, S1, S2, b, le, ra, rb, e, q⟩
  unfold gtC at e
  split at e
  · cases e
    cases ra.intV; cases rb.intV
    exact op_gt pins s σ H _ _ v u Q I rx ry ⟨_, _, rfl, rfl, q⟩
  · cases e
theorem op_geC : OpR X (compareOp .GtE) (rC (gv X ca) geC) := by
  intro pins s σ H x y v u Q I rx ry ⟨F, oa, ob, S1, S2, b, le, ra, rb, e, q⟩
  unfold geC at e
  split at e
  · cases e
    cases ra.intV; cases rb.intV
    exact op_ge pins s σ H _ _ v u Q I rx ry ⟨_, _, rfl, rfl, q⟩
  · cases e
theorem non_dec {g : Gv} {H F : Hp} {oa : O} {x : V} {S : Addr → Prop} (ra : RepO g H F oa x S) : decide (x = .non) = nonO oa := by
  cases oa with
  | val d =>
    rw [RepO] at ra
    cases d with
    | non => rw [RepV] at ra; subst ra; rfl
    | bl _ => rw [RepV] at ra; subst ra; rfl
    | int _ => rw [RepV] at ra; subst ra; rfl
    | str _ => rw [RepV] at ra; subst ra; rfl
    | tup _ => rw [RepV] at ra; obtain ⟨a, vs, rfl, _⟩ := ra; rfl
    | lst _ => rw [RepV] at ra; obtain ⟨a, vs, rfl, _⟩ := ra; rfl
    | dct t _ _ => cases t <;> (rw [RepV] at ra; obtain ⟨a, vs, rfl, _⟩ := ra; rfl)
    | ins _ _ _ => rw [RepV] at ra; obtain ⟨a, dx, vs, rfl, _⟩ := ra; rfl
    | scr _ => rw [RepV] at ra; obtain ⟨a, rfl, _⟩ := ra; rfl
    | ty _ => rw [RepV] at ra; subst ra; rfl
    | exn _ _ _ => rw [RepV] at ra; obtain ⟨x, _, rfl, _⟩ := ra; rfl
  | lst _ => rw [RepO] at ra; obtain ⟨a, vs, rfl, _⟩ := ra; rfl
  | dct t _ _ => cases t <;> (rw [RepO] at ra; obtain ⟨a, vs, rfl, _⟩ := ra; rfl)
  | ins _ _ _ => rw [RepO] at ra; obtain ⟨a, dx, vs, rfl, _⟩ := ra; rfl
theorem op_isC : OpR X (compareOp .Is) (rC (gv X ca) isC) := by
  intro pins s σ H x y v u Q I rx ry ⟨F, oa, ob, S1, S2, b, le, ra, rb, e, q⟩
  unfold isC at e
  split at e
  · cases e
    cases ra.blV; cases rb.blV
    exact op_isBl pins s σ H _ _ v u Q I rx ry ⟨_, _, rfl, rfl, q⟩
  · cases e
    cases rb.nonV
    refine op_isN pins s σ H _ _ v u Q I rx ry ⟨rfl, ?_⟩
    rw [non_dec ra]
    exact q
  · cases e
theorem op_isNC : OpR X (compareOp .IsNot) (rC (gv X ca) isNC) := by
  intro pins s σ H x y v u Q I rx ry ⟨F, oa, ob, S1, S2, b, le, ra, rb, e, q⟩
  unfold isNC at e
  obtain ⟨c, e2, eb⟩ := Option.map_eq_some_iff.mp e
  subst eb
  unfold isC at e2
  split at e2
  · cases e2
    cases ra.blV; cases rb.blV
    exact op_notBl pins s σ H _ _ v u Q I rx ry ⟨_, _, rfl, rfl, q⟩
  · cases e2
    cases rb.nonV
    refine op_notN pins s σ H _ _ v u Q I rx ry ⟨rfl, ?_⟩
    rw [non_dec ra]
    exact q
  · cases e2
theorem any_py {n m : Nat} {d : D} (hd : okD m d = true) : ∀ {ds : List D}, (∀ x ∈ ds, okD n x = true) → ((toPys ds).any fun z => PyData.eqv z (toPy d)) = ds.any fun z => z.eqv d
  | [], _ => rfl
  | x :: xs, h => by
    rw [toPys, List.any_cons, List.any_cons, eqv_py n m x d (h x (by simp)) hd, any_py hd fun y hy => h y (by simp [hy])]
theorem one_sign {x : Str} {c : Nat} (h : x.cps.toList = [c]) : x = ⟨#[c]⟩ := by
  obtain ⟨a⟩ := x
  cases a
  simp at h
  subst h
  rfl
theorem op_inC (hu : X.A.units + 65 < cLine) : OpR X (compareOp .In) (rC (gv X ca) inC) := by
  intro pins s σ H x y v u Q I rx ry ⟨F, oa, ob, S1, S2, b, le, ra, rb, e, q⟩
  unfold inC at e
  split at e
  · split at e
    · rename_i hc
      cases e
      cases ra.strV; cases rb.strV
      exact op_in_sign pins s σ H _ _ v u Q I rx ry ⟨_, _, by rw [one_sign hc], rfl, q⟩
    · cases e
  · split at e
    · rename_i hk
      rw [Bool.and_eq_true] at hk
      have dx := dpO_of 16 oa x S1 le hk.1 ra
      have dy := dpO_of 16 ob y S2 le hk.2 rb
      obtain ⟨as, r1⟩ := Dp.reads I _ x v dx rx
      have sd := okD_shaped hk.1 (by decide)
      split at e
      · rename_i ds hb
        cases e
        rw [hb] at hk dy
        rw [toPy] at dy
        obtain ⟨m, hm, hds⟩ := okD_tup.mp hk.2
        obtain ⟨bs, r2⟩ := Dp.reads I _ y u dy ry
        refine SeqAt.in_tuple_reads r2 r1 (okDs_lay m ds hds).1 (SeqAt.canLay_of_shaped sd) (room_in_shaped sd hu) ⟨.bl _, H, I, rfl, ?_⟩
        rw [any_py hk.1 hds]
        exact q
      · rename_i ds hb
        cases e
        rw [hb] at hk dy
        rw [toPy] at dy
        obtain ⟨m, hm, hds⟩ := okD_lst.mp hk.2
        obtain ⟨bs, r2⟩ := Dp.reads I _ y u dy ry
        refine SeqAt.in_list_reads r2 r1 (okDs_lay m ds hds).1 (SeqAt.canLay_of_shaped sd) (room_in_shaped sd hu) ⟨.bl _, H, I, rfl, ?_⟩
        rw [any_py hk.1 hds]
        exact q
      · cases e
    · cases e
theorem op_ninC (hu : X.A.units + 65 < cLine) : OpR X (compareOp .NotIn) (rC (gv X ca) ninC) := by
  intro pins s σ H x y v u Q I rx ry ⟨F, oa, ob, S1, S2, b, le, ra, rb, e, q⟩
  unfold ninC at e
  obtain ⟨c, e2, eb⟩ := Option.map_eq_some_iff.mp e
  subst eb
  unfold inC at e2
  split at e2
  · split at e2
    · rename_i hc
      cases e2
      cases ra.strV; cases rb.strV
      exact op_notIn_sign pins s σ H _ _ v u Q I rx ry ⟨_, _, by rw [one_sign hc], rfl, q⟩
    · cases e2
  · split at e2
    · rename_i hk
      rw [Bool.and_eq_true] at hk
      have dx := dpO_of 16 oa x S1 le hk.1 ra
      have dy := dpO_of 16 ob y S2 le hk.2 rb
      obtain ⟨as, r1⟩ := Dp.reads I _ x v dx rx
      have sd := okD_shaped hk.1 (by decide)
      split at e2
      · rename_i ds hb
        cases e2
        rw [hb] at hk dy
        rw [toPy] at dy
        obtain ⟨m, hm, hds⟩ := okD_tup.mp hk.2
        obtain ⟨bs, r2⟩ := Dp.reads I _ y u dy ry
        refine SeqAt.notIn_tuple_reads r2 r1 (okDs_lay m ds hds).1 (SeqAt.canLay_of_shaped sd) (room_in_shaped sd hu) ⟨.bl _, H, I, rfl, ?_⟩
        rw [any_py hk.1 hds]
        exact q
      · rename_i ds hb
        cases e2
        rw [hb] at hk dy
        rw [toPy] at dy
        obtain ⟨m, hm, hds⟩ := okD_lst.mp hk.2
        obtain ⟨bs, r2⟩ := Dp.reads I _ y u dy ry
        refine SeqAt.notIn_list_reads r2 r1 (okDs_lay m ds hds).1 (SeqAt.canLay_of_shaped sd) (room_in_shaped sd hu) ⟨.bl _, H, I, rfl, ?_⟩
        rw [any_py hk.1 hds]
        exact q
      · cases e2
    · cases e2
end

/-! ### the terms -/
section
variable {W : WX} {X : Cx} {ca : Ca} {a b c : Expr} {ta tb tc : TE} {f : M (O × O)} {pos : Pos}
def binF (G : O → O → Option O) (f : M (O × O)) : M O := f.bind fun p => M.of (G p.1 p.2)
def cmpF (C : O → O → Option Bool) (f : M (O × O)) : M Bool := f.bind fun p => M.of (C p.1 p.2)
def blO (f : M Bool) : M O := f.bind fun b => M.pure (.val (.bl b))
theorem e_bin {op : Operator} {G : O → O → Option O} (ho : OpR X (binaryOp op) (rB (gv X ca) G)) (p : Pr (gv X ca) W ta tb f) (ha : PE X a ta) (hb : PE X b tb) : PE X (.BinOp a op b pos) (T (gv X ca) W (binF G f)) :=
  PE.imp (pe_op ho ha hb) fun σ H Q ⟨F, Gx, ρ, st, r⟩ => p σ H _ ⟨F, Gx, ρ, st, r.bind.mono fun p H' F' ρ' le r1 x y S1 S2 st' rx ry => by
    obtain ⟨res, e, q⟩ := r1.of
    exact ⟨F', Gx, σ, ρ', _, _, S1, S2, res, st', rx, ry, e, fun v H2 F2 le2 st2 => q H2 F2 le2 v st2⟩⟩
end
end PF

set_option Elab.async false
set_option linter.all false
set_option maxRecDepth 100000
set_option maxHeartbeats 2000000
namespace PF
open PySem PySem.Spec PyProof.Rows L2

/-! ### more on what is owned -/
section
variable {g : Gv}
theorem RepL.toOs {H F : Hp} : ∀ {vs : List V} {os : List O} {S : Addr → Prop}, vs.length = os.length → RepL g H F (vs.zip os) S → RepOs g H F os vs S
  | [], [], S, _, _ => by rw [RepOs]
  | v :: vs, o :: os, S, hl, ⟨S1, S2, sp, r1, r2⟩ => by
    rw [RepOs]
    exact ⟨v, vs, S1, S2, rfl, sp, r1, RepL.toOs (by simpa using hl) r2⟩
  | [], _ :: _, _, hl, _ => by simp at hl
  | _ :: _, [], _, hl, _ => by simp at hl
theorem Good.freezeL {H Gx : Hp} : ∀ {F : Hp} {vs : List V} {os : List O} {B : List (V × O)}, vs.length = os.length → Good g H F Gx (vs.zip os ++ B) → ∃ F', Le F F' ∧ Good g H F' Gx B ∧ RepVs g F' (fzs os) vs
  | F, [], [], B, _, h => ⟨F, Le.refl F, h, by rw [fzs, RepVs]⟩
  | F, v :: vs, o :: os, B, hl, h => by
    obtain ⟨F1, le1, h1⟩ := Good.freeze (B := vs.zip os ++ B) h
    obtain ⟨F2, le2, h2, r2⟩ := Good.freezeL (F := F1) (vs := vs) (os := os) (B := B) (by simpa using hl) h1.drop1
    exact ⟨F2, le1.trans le2, h2, by rw [fzs, RepVs]; exact ⟨v, vs, rfl, RepV.mono g le2 _ _ h1.val, r2⟩⟩
  | _, [], _ :: _, _, hl, _ => by simp at hl
  | _, _ :: _, [], _, hl, _ => by simp at hl
/-- a new owned thing, of owned parts -/
theorem Good.newP {H F Gx : Hp} {A L : List (V × O)} {o : O} {p : Addr} {u : HO} (h : Good g H F Gx (A ++ L)) (hp : H p = none)
    (r : ∀ S1 S, (∀ a, S1 a → a ≠ p) → RepL g (upd H p u) F A S1 → S p → (∀ a, S1 a → S a) → RepO g (upd H p u) F o (.ref p) S) : Good g (upd H p u) F Gx ((.ref p, o) :: L) := by
  obtain ⟨S, hT, hF, hG, hFG, hS, hL⟩ := h.ex
  obtain ⟨SA, SL, sp, rA, rL⟩ := RepL.split g A L S hL
  have nF : F p = none := by
    cases q : F p with
    | none => rfl
    | some o => rw [hF p o q] at hp; cases hp
  have nG : Gx p = none := by
    cases q : Gx p with
    | none => rfl
    | some o => rw [hG p o q] at hp; cases hp
  have nS : ∀ a, S a → a ≠ p := fun a h e => by
    subst e
    obtain ⟨_, _, o, ho⟩ := hS a h
    rw [ho] at hp; cases hp
  refine ⟨fun a => a = p ∨ S a, hT.fresh hp, fun a o e => ?_, fun a o e => ?_, hFG, fun a h => ?_, fun a => a = p ∨ SA a, SL, ⟨fun _ h => h.elim .inl (fun h => .inr (sp.l _ h)), fun _ h => .inr (sp.r _ h), fun a h1 h2 => h1.elim (fun h1 => nS a (sp.r a h2) h1) fun h1 => sp.d a h1 h2⟩,
    r SA _ (fun a h => nS a (sp.l a h)) (RepL.frame g (Le.refl F) A SA SA (fun _ h => h) (fun a h => upd_ne (nS a (sp.l a h))) rA) (.inl rfl) fun a h => .inr h, RepL.frame g (Le.refl F) L SL SL (fun _ h => h) (fun a h => upd_ne (nS a (sp.r a h))) rL⟩
  · rw [upd_ne (fun q => by subst q; rw [nF] at e; cases e)]; exact hF a o e
  · rw [upd_ne (fun q => by subst q; rw [nG] at e; cases e)]; exact hG a o e
  · rcases h with rfl | h
    · exact ⟨nF, nG, _, upd_same⟩
    · rw [upd_ne (nS a h)]; exact hS a h
end

/-! ### tests, and, or, not, if -/
def asB (o : O) : M Bool := match o with
  | .val (.bl b) => M.pure b
  | _ => M.stuck
def asI (o : O) : M (Option Int) := match o with
  | .val (.int i) => M.pure (some i)
  | _ => M.stuck
def andB (fa fb : M Bool) : M Bool := fa.bind fun c => if c = true then fb else M.pure false
def orB (fa fb : M Bool) : M Bool := fa.bind fun c => if c = true then M.pure true else fb
def notB (fa : M Bool) : M Bool := fa.bind fun c => M.pure (!c)
def iteM {α : Type} (fc : M Bool) (fa fb : M α) : M α := fc.bind fun c => if c = true then fa else fb
section
variable {g : Gv} {W : WX} {X : Cx} {ca : Ca} {a b c e : Expr} {rest : List Expr} {ta tb tc : TE} {fa fb : M Bool} {f : M (O × O)} {fo : M O} {pos : Pos}
theorem rC_mono {C : O → O → Option Bool} {x y : V} {H : Hp} {Q Q' : VK} (h : rC g C x y H Q) (i : ∀ b, Q (.bl b) H → Q' (.bl b) H) : rC g C x y H Q' := by
  obtain ⟨F, oa, ob, S1, S2, b, le, ra, rb, e, q⟩ := h
  exact ⟨F, oa, ob, S1, S2, b, le, ra, rb, e, i b q⟩
theorem cmp_run {C : O → O → Option Bool} {σ : L2.St} {H : Hp} {Q : Bool → Hp → Prop} (p : Pr g W ta tb f) (h : Tt g W (cmpF C f) σ H Q) :
    ta σ H fun x H1 => tb σ H1 fun y H2 => rC g C x y H2 fun z H' => ∃ k, z = .bl k ∧ Q k H' := by
  obtain ⟨F, Gx, ρ, st, r⟩ := h
  refine p σ H _ ⟨F, Gx, ρ, st, r.bind.mono fun p H' F' ρ' le r1 x y S1 S2 st' rx ry => ?_⟩
  obtain ⟨res, e, q⟩ := r1.of
  exact ⟨F', _, _, S1, S2, res, st'.le, rx, ry, e, res, rfl, q H' F' (Le.refl F') st'⟩
theorem T_bl {fb : M Bool} {σ : L2.St} {H : Hp} {Q : VK} (h : T g W (blO fb) σ H Q) : Tt g W fb σ H fun b H' => Q (.bl b) H' := by
  obtain ⟨F, Gx, ρ, st, r⟩ := h
  exact ⟨F, Gx, ρ, st, r.bind.mono fun b H' F' ρ' le r1 st' => r1.pure H' F' (Le.refl F') _ (st'.ofVal repB)⟩
theorem e_cmp {op : CmpOp} {C : O → O → Option Bool} (ho : OpR X (compareOp op) (rC (gv X ca) C)) (p : Pr (gv X ca) W ta tb f) (ha : PE X a ta) (hb : PE X b tb) (hm : behindInMarks op b = false) : PE X (.Compare a [op] [b] pos) (T (gv X ca) W (blO (cmpF C f))) :=
  PE.imp (pe_cmpR (r := fun x y H Q => rC (gv X ca) C x y H fun z H' => ∃ k, z = .bl k ∧ Q (.bl k) H') (fun pins s σ H x y v u Q I rx ry h => ho pins s σ H x y v u Q I rx ry (rC_mono h fun b ⟨k, e, q⟩ => by cases e; exact q)) ha hb hm) fun σ H Q h => cmp_run p (T_bl h)
theorem t_cmp {op : CmpOp} {C : O → O → Option Bool} (ho : OpR X (compareOp op) (rC (gv X ca) C)) (p : Pr (gv X ca) W ta tb f) (ha : PE X a ta) (hb : PE X b tb) (hm : behindInMarks op b = false) : PT X (.Compare a [op] [b] pos) (Tt (gv X ca) W (cmpF C f)) :=
  PT.imp (pt_cmpR ho ha hb hm) fun σ H Q h => cmp_run p h
/-- a test by its value -/
theorem Tt_val {σ : L2.St} {H : Hp} {Q : Bool → Hp → Prop} (h : Tt g W (fo.bind asB) σ H Q) : TR g W fo σ H fun x H1 => ∃ k, x = .bl k ∧ Q k H1 := by
  obtain ⟨F, Gx, ρ, st, r⟩ := h
  refine ⟨F, Gx, ρ, st, r.bind.mono fun o H' F' ρ' le r1 v S st' rv => ?_⟩
  obtain ⟨r2, ρ2, e2⟩ := r1.run
  unfold asB at r1 e2
  split at e2
  · cases rv.blV
    exact ⟨_, rfl, r1.pure H' F' (Le.refl F') st'⟩
  · cases e2
theorem t_val (h : PE X e (TR g W fo)) (he : ∀ whole, isTrue e X.env whole = (do let v ← whole; standAt e.pos; holding [v] (truthy v)) := by intro _; rfl) : PT X e (Tt g W (fo.bind asB)) :=
  PT.imp (pt_val h he) fun σ H Q h => Tt_val h
theorem Tt_bind {fa : M Bool} {k : Bool → M Bool} {σ : L2.St} {H : Hp} {Q : Bool → Hp → Prop} (h : Tt g W (fa.bind k) σ H Q) : Tt g W fa σ H fun c H1 => Tt g W (k c) σ H1 Q := by
  obtain ⟨F, Gx, ρ, st, r⟩ := h
  exact ⟨F, Gx, ρ, st, r.bind.mono fun c H' F' ρ' le r1 st' => ⟨F', Gx, ρ', st', r1⟩⟩
theorem Tt_pure {b : Bool} {σ : L2.St} {H : Hp} {Q : Bool → Hp → Prop} (h : Tt g W (M.pure b) σ H Q) : Q b H := by
  obtain ⟨F, Gx, ρ, st, r⟩ := h
  exact r.pure H F (Le.refl F) st
theorem Tt_mono {f : M Bool} {σ : L2.St} {H : Hp} {Q Q' : Bool → Hp → Prop} (h : Tt g W f σ H Q) (i : ∀ b H, Q b H → Q' b H) : Tt g W f σ H Q' := by
  obtain ⟨F, Gx, ρ, st, r⟩ := h
  exact ⟨F, Gx, ρ, st, r.mono fun b H' F' ρ' le q st' => i _ _ (q st')⟩
theorem t_and (ha : PT X a (Tt g W fa)) (hb : PW X (.BoolOp .And (b :: rest) pos) (Tt g W fb)) : PW X (.BoolOp .And (a :: b :: rest) pos) (Tt g W (andB fa fb)) :=
  PW.imp (pw_and ha hb) fun σ H Q h => Tt_mono (Tt_bind h) fun c H1 q => by
    cases c with
    | true => exact q
    | false => exact Tt_pure q
theorem t_or (ha : PT X a (Tt g W fa)) (hb : PW X (.BoolOp .Or (b :: rest) pos) (Tt g W fb)) : PW X (.BoolOp .Or (a :: b :: rest) pos) (Tt g W (orB fa fb)) :=
  PW.imp (pw_or ha hb) fun σ H Q h => Tt_mono (Tt_bind h) fun c H1 q => by
    cases c with
    | true => exact Tt_pure q
    | false => exact q
theorem t_not (ha : PT X a (Tt g W fa)) : PT X (.UnaryOp .Not a pos) (Tt g W (notB fa)) :=
  PT.imp (pt_not ha) fun σ H Q h => Tt_mono (Tt_bind h) fun c H1 q => Tt_pure q
/-- as values: the parts are bools -/
theorem Tb_run {fb : M Bool} {σ : L2.St} {H : Hp} {Q : Bool → Hp → Prop} (h : Tt g W fb σ H Q) : T g W (blO fb) σ H fun x H1 => ∃ k, x = .bl k ∧ Q k H1 := by
  obtain ⟨F, Gx, ρ, st, r⟩ := h
  refine ⟨F, Gx, ρ, st, ?_⟩
  unfold Rn blO M.bind at *
  cases q : fb ρ with
  | none => rw [q] at r; exact r
  | some p =>
    obtain ⟨r1, ρ'⟩ := p
    rw [q] at r
    cases r1 with
    | ex e => exact r
    | ok b =>
      intro H' F' le v st'
      have rv := st'.gd.val (B := slL σ ρ')
      rw [RepV] at rv
      exact ⟨b, rv, r H' F' le st'.drop1⟩
theorem e_and {fa fb : M Bool} (ha : PE X a (T g W (blO fa))) (hb : PE X (.BoolOp .And (b :: rest) pos) (T g W (blO fb))) : PE X (.BoolOp .And (a :: b :: rest) pos) (T g W (blO (andB fa fb))) :=
  PE.imp (pe_and ha hb) fun σ H Q h => Tb_run (Tt_mono (Tt_bind (T_bl h)) fun c H1 q => by
    cases c with
    | true =>
      have q := Tb_run q
      obtain ⟨F, Gx, ρ, st, r⟩ := q
      exact ⟨F, Gx, ρ, st, r.mono fun o H' F' ρ' le q v st' => by obtain ⟨k, rfl, q⟩ := q v st'; exact q⟩
    | false => exact Tt_pure q)
theorem e_or {fa fb : M Bool} (ha : PE X a (T g W (blO fa))) (hb : PE X (.BoolOp .Or (b :: rest) pos) (T g W (blO fb))) : PE X (.BoolOp .Or (a :: b :: rest) pos) (T g W (blO (orB fa fb))) :=
  PE.imp (pe_or ha hb) fun σ H Q h => Tb_run (Tt_mono (Tt_bind (T_bl h)) fun c H1 q => by
    cases c with
    | true => exact Tt_pure q
    | false =>
      have q := Tb_run q
      obtain ⟨F, Gx, ρ, st, r⟩ := q
      exact ⟨F, Gx, ρ, st, r.mono fun o H' F' ρ' le q v st' => by obtain ⟨k, rfl, q⟩ := q v st'; exact q⟩)
theorem e_not {fa : M Bool} (ha : PE X a (T g W (blO fa))) : PE X (.UnaryOp .Not a pos) (T g W (blO (notB fa))) :=
  PE.imp (pe_not ha) fun σ H Q h => Tb_run (Tt_mono (Tt_bind (T_bl h)) fun c H1 q => Tt_pure q)
/-- a value that is a bool -/
theorem e_asb (h : PE X e (T g W fo)) : PE X e (T g W (blO (fo.bind asB))) := PE.imp h fun σ H Q h => by
  have h1 := Tt_val (T_bl h)
  obtain ⟨F, Gx, ρ, st, r⟩ := T.look h1
  exact ⟨F, Gx, ρ, st, r.mono fun o H' F' ρ' le q v st' => by obtain ⟨k, rfl, q⟩ := q v st'; exact q⟩
theorem e_ite {fc : M Bool} {fx fy : M O} (hc : PT X c (Tt g W fc)) (ha : PE X a (T g W fx)) (hb : PE X b (T g W fy)) : PE X (.IfExp c a b pos) (T g W (iteM fc fx fy)) :=
  PE.imp (pe_ifExp hc ha hb) fun σ H Q ⟨F, Gx, ρ, st, r⟩ => ⟨F, Gx, ρ, st, r.bind.mono fun c H' F' ρ' le r1 st' => by
    cases c with
    | true => exact ⟨F', Gx, ρ', st', r1⟩
    | false => exact ⟨F', Gx, ρ', st', r1⟩⟩
/-- a < b < c -/
def chainF (C C' : O → O → Option Bool) (fa fb fc : M O) : M Bool := fa.bind fun x => fb.bind fun y => (M.of (C x y)).bind fun k => if k = true then fc.bind fun z => M.of (C' y z) else M.pure false
end

/-! ### argument lists, displays -/
def nilA : M (List O) := M.pure []
def consA (f : M O) (fs : M (List O)) : M (List O) := f.bind fun o => fs.bind fun os => M.pure (o :: os)
def tupM (os : List O) : M O := if os.length ≤ lim then M.pure (.val (.tup (fzs os))) else M.stuck
def lstM (os : List O) : M O := if os.length ≤ lim then M.pure (.lst os) else M.stuck
section
variable {g : Gv} {W : WX} {X : Cx} {ca : Ca} {e : Expr} {es : List Expr} {f : M O} {fs : M (List O)} {pos : Pos} {k : Nat}
theorem a_nil : PA X [] (TL g W nilA) := PA.imp pa_nil fun σ H Q ⟨F, Gx, ρ, st, r⟩ => r.pure H F (Le.refl F) [] rfl st
theorem a_cons (ha : PE X e (T g W f)) (hr : PA X es (TL g W fs)) (hs : starEach (e :: es) X.env = (false, eval e X.env) :: starEach es X.env := by rfl) : PA X (e :: es) (TL g W (consA f fs)) :=
  PA.imp (pa_cons ha hr hs) fun σ H Q ⟨F, Gx, ρ, st, r⟩ => by
    refine ⟨F, Gx, ρ, st, r.bind.mono fun o H1 F1 ρ1 le r1 v st1 => ?_⟩
    obtain ⟨Gx', st1', back⟩ := st1.aside
    refine ⟨F1, Gx', ρ1, st1', (r1.aside fun H' F' ρ' le q => (back H' F' ρ' [] le q).drop1).bind.mono fun os H2 F2 ρ2 le2 r2 vs hl st2 => ?_⟩
    exact r2.pure H2 F2 (Le.refl _) (v :: vs) (by simp [hl]) (back H2 F2 ρ2 _ le2 st2)
theorem e_tup (h : PA X es (TL g W fs)) : PE X (.Tuple es k pos) (T g W (fs.bind tupM)) :=
  PE.imp (pe_tup h) fun σ H Q ⟨F, Gx, ρ, st, r⟩ => by
    refine ⟨F, Gx, ρ, st, r.bind.mono fun os H1 F1 ρ1 le r1 vs hl st1 => ?_⟩
    unfold tupM at r1
    split at r1
    · rename_i hz
      obtain ⟨F2, le2, g2, rv⟩ := Good.freezeL (B := slL σ ρ1) hl st1.gd
      have st2 : StG g H1 F2 Gx σ ρ1 [] := ⟨st1.wf, st1.len, g2⟩
      refine ⟨lim_le (by omega), ?_⟩
      refine Yd.tup (F := F2) (fun v H' F' le3 st3 => r1.pure H' F' (le2.trans le3) v st3) st2 rv
    · obtain ⟨_, _, e⟩ := r1.run; cases e
theorem e_lst (h : PA X es (TL g W fs)) : PE X (.List es pos) (T g W (fs.bind lstM)) :=
  PE.imp (pe_lst h) fun σ H Q ⟨F, Gx, ρ, st, r⟩ => by
    refine ⟨F, Gx, ρ, st, r.bind.mono fun os H1 F1 ρ1 le r1 vs hl st1 => ?_⟩
    unfold lstM at r1
    split at r1
    · rename_i hz
      refine ⟨lim_le (by omega), fun p hp => r1.pure _ F1 (Le.refl _) (.ref p) ⟨st1.wf, st1.len, Good.newP (A := vs.zip os) (L := slL σ ρ1) st1.gd hp fun S1 S h1 h2 h3 h4 => ?_⟩⟩
      rw [RepO]
      exact ⟨p, vs, rfl, h3, upd_same, RepOs.sup g (fun a h => ⟨h4 a h, h1 a h⟩) (RepL.toOs hl h2)⟩
    · obtain ⟨_, _, e⟩ := r1.run; cases e
end

/-! ### arguments that are looked at -/
def ViewL (g : Gv) (H F : Hp) : List O → List V → Prop
  | [], vs => vs = []
  | o :: os, vs => ∃ v r S, vs = v :: r ∧ RepO g H F o v S ∧ ViewL g H F os r
def TLR (g : Gv) (W : WX) (f : M (List O)) : TA := fun σ H Q => ∃ F Gx ρ, StG g H F Gx σ ρ [] ∧ Rn g W f σ H F Gx ρ fun os H' F' ρ' => ∀ vs, StG g H' F' Gx σ ρ' [] → ViewL g H' F' os vs → Q vs H'
def one (f : M O) : M (List O) := f.bind fun o => M.pure [o]
def two (f : M (O × O)) : M (List O) := f.bind fun p => M.pure [p.1, p.2]
def rF (g : Gv) (G : List O → Option O) : List V → Hp → VK → Prop := fun vs H Q => ∃ F Gx σ ρ os res, StG g H F Gx σ ρ [] ∧ ViewL g H F os vs ∧ G os = some res ∧ Yd g H F Gx σ ρ res Q
section
variable {g : Gv} {W : WX} {X : Cx} {ca : Ca} {e e2 : Expr} {es : List Expr} {ta tb : TE} {f : M O} {f2 : M (O × O)} {fs : M (List O)} {pos p : Pos} {x : Str}
theorem r_one (ha : PE X e (TR g W f)) (hs : starEach [e] X.env = (false, eval e X.env) :: starEach [] X.env := by rfl) : PA X [e] (TLR g W (one f)) :=
  PA.imp (pa_cons ha pa_nil hs) fun σ H Q ⟨F, Gx, ρ, st, r⟩ => ⟨F, Gx, ρ, st, r.bind.mono fun o H1 F1 ρ1 le r1 v S st1 rv => r1.pure H1 F1 (Le.refl _) [v] st1 ⟨v, [], S, rfl, rv, rfl⟩⟩
theorem r_two (pr : Pr g W ta tb f2) (ha : PE X e ta) (hb : PE X e2 tb) (hs : starEach [e, e2] X.env = (false, eval e X.env) :: starEach [e2] X.env := by rfl) (hs2 : starEach [e2] X.env = (false, eval e2 X.env) :: starEach [] X.env := by rfl) : PA X [e, e2] (TLR g W (two f2)) :=
  PA.imp (pa_cons ha (pa_cons hb pa_nil hs2) hs) fun σ H Q ⟨F, Gx, ρ, st, r⟩ => pr σ H _ ⟨F, Gx, ρ, st, r.bind.mono fun p H1 F1 ρ1 le r1 x y S1 S2 st1 rx ry => r1.pure H1 F1 (Le.refl _) [x, y] st1 ⟨x, [y], S1, rfl, rx, y, [], S2, rfl, ry, rfl⟩⟩
/-- handed on, so looked at -/
theorem r_ofL (h : PA X es (TL g W fs)) : PA X es (TLR g W (fs.bind fun os => if os.length ≤ lim then M.pure (os.map fun o => .val (fz o)) else M.stuck)) :=
  PA.imp h fun σ H Q ⟨F, Gx, ρ, st, r⟩ => by
    refine ⟨F, Gx, ρ, st, r.bind.mono fun os H1 F1 ρ1 le r1 vs hl st1 => ?_⟩
    split at r1
    · obtain ⟨F2, le2, g2, rv⟩ := Good.freezeL (B := slL σ ρ1) hl st1.gd
      refine r1.pure H1 F2 le2 vs ⟨st1.wf, st1.len, g2⟩ ?_
      have key : ∀ (os : List O) (vs : List V), RepVs g F2 (fzs os) vs → ViewL g H1 F2 (os.map fun o => .val (fz o)) vs := by
        intro os
        induction os with
        | nil => intro vs h; rw [fzs, RepVs] at h; exact h
        | cons o os ih =>
          intro vs h
          rw [fzs, RepVs] at h
          obtain ⟨v, w, rfl, h1, h2⟩ := h
          exact ⟨v, w, fun _ => False, rfl, by rw [RepO]; exact h1, ih w h2⟩
      exact key os vs rv
    · obtain ⟨_, _, e⟩ := r1.run; cases e
theorem rF_run {G : List O → Option O} {σ : L2.St} {H : Hp} {Q : VK} (h : T g W (fs.bind fun os => M.of (G os)) σ H Q) : TLR g W fs σ H fun vs H1 => rF g G vs H1 Q := by
  obtain ⟨F, Gx, ρ, st, r⟩ := h
  refine ⟨F, Gx, ρ, st, r.bind.mono fun os H1 F1 ρ1 le r1 vs st1 vw => ?_⟩
  obtain ⟨res, e, q⟩ := r1.of
  exact ⟨F1, Gx, σ, ρ1, os, res, st1, vw, e, fun v H2 F2 le2 st2 => q H2 F2 le2 v st2⟩
def biF (G : List O → Option O) (fs : M (List O)) : M O := fs.bind fun os => M.of (G os)
theorem e_callB {id : String} {G : List O → Option O} (hc : CallR X (.builtin id) (rF (gv X ca) G)) (hg : Gl X x) (hm : X.mg x = none) (hv : bootBuiltins x = some (.builtin id)) (ha : PA X (e :: es) (TLR (gv X ca) W fs)) (hn : x ≠ "__name__" := by decide) (hdb : (x == ("__debug__" : Str)) = false := by decide)
    (he : starEach (e :: es) X.env = (false, eval e X.env) :: starEach es X.env := by rfl) (hpl : (backTo pos (starEach es X.env)).any (·.1) = false := by rfl) : PE X (.Call (.Name x p) (e :: es) [] pos) (T (gv X ca) W (biF G fs)) :=
  PE.imp (pe_callB hc hg hm hv ha hn hdb he hpl) fun σ H Q h => rF_run h
theorem e_callTy {T' : String} {G : List O → Option O} (hc : CallR X (.type T') (rF (gv X ca) G)) (hg : Gl X x) (hm : X.mg x = none) (hv : bootBuiltins x = some (.type T')) (ha : PA X (e :: es) (TLR (gv X ca) W fs)) (hn : x ≠ "__name__" := by decide) (hdb : (x == ("__debug__" : Str)) = false := by decide)
    (he : starEach (e :: es) X.env = (false, eval e X.env) :: starEach es X.env := by rfl) (hpl : (backTo pos (starEach es X.env)).any (·.1) = false := by rfl) : PE X (.Call (.Name x p) (e :: es) [] pos) (T (gv X ca) W (biF G fs)) :=
  PE.imp (pe_callTy hc hg hm hv ha hn hdb he hpl) fun σ H Q h => rF_run h
end

/-! ### items, slices -/
def itV : Option O → Option O
  | some (.val d) => some (.val d)
  | _ => none
/-- a[i] -/
def idxG : O → O → Option O
  | .val (.scr ns), .val (.int i) => (atI ns i).map fun n => .val (.int n)
  | .val (.tup ds), .val (.int i) => (atI ds i).map .val
  | .val (.str z), .val (.int i) => if z.length ≤ lim then (atI z.cps.toList i).map fun c => .val (.str ⟨#[c]⟩) else none
  | .val (.lst ds), .val (.int i) => (atI ds i).map .val
  | .lst os, .val (.int i) => itV (atI os i)
  | _, _ => none
def cutL {α : Type} (xs : List α) (lo hi : Option Int) : List α := (xs.drop (HT.sIx xs.length 0 lo)).take (HT.sIx xs.length xs.length hi - HT.sIx xs.length 0 lo)
def sliG (a : O) (lo hi : Option Int) : Option O := match a with
  | .val (.tup ds) => some (.val (.tup (cutL ds lo hi)))
  | .val (.str z) => if z.length ≤ lim then some (.val (.str (cutS z lo hi))) else none
  | a => match a.dsL with
    | some ds => some (.lst ((cutL ds lo hi).map .val))
    | none => none
section
variable {g : Gv} {H F : Hp}
theorem RepVs.atI {ds : List D} {vs : List V} {i : Int} {d : D} (r : RepVs g F ds vs) (e : atI ds i = some d) : ∃ v, L2.atI vs i = some v ∧ RepV g F d v := by
  unfold L2.atI at e ⊢
  obtain ⟨j, h1, h2⟩ := Option.bind_eq_some_iff.mp e
  obtain ⟨v, h3, h4⟩ := r.get h2
  exact ⟨v, by rw [r.length, h1]; exact h3, h4⟩
theorem RepOs.length : ∀ {os : List O} {vs : List V} {S : Addr → Prop}, RepOs g H F os vs S → vs.length = os.length
  | [], _, _, h => by rw [RepOs] at h; rw [h]; rfl
  | o :: os, _, _, h => by
    rw [RepOs] at h
    obtain ⟨v, r, S1, S2, rfl, _, _, h⟩ := h
    rw [List.length_cons, List.length_cons, RepOs.length h]
theorem RepOs.get : ∀ {os : List O} {vs : List V} {S : Addr → Prop} {i : Nat} {o : O}, RepOs g H F os vs S → os[i]? = some o → ∃ v S', vs[i]? = some v ∧ RepO g H F o v S'
  | [], vs, S, i, d, r, e => by simp at e
  | x :: ds, vs, S, 0, d, r, e => by
    rw [RepOs] at r
    obtain ⟨v, w, S1, S2, rfl, sp, r1, r3⟩ := r
    simp at e; subst e
    exact ⟨v, S1, by simp, r1⟩
  | x :: ds, vs, S, i + 1, d, r, e => by
    rw [RepOs] at r
    obtain ⟨v, w, S1, S2, rfl, sp, r1, r3⟩ := r
    obtain ⟨u, S', h1, h2⟩ := RepOs.get (i := i) (o := d) r3 (by simpa using e)
    exact ⟨u, S', by simpa using h1, h2⟩
theorem RepOs.atI {os : List O} {vs : List V} {S : Addr → Prop} {i : Int} {o : O} (r : RepOs g H F os vs S) (e : atI os i = some o) : ∃ v S', L2.atI vs i = some v ∧ RepO g H F o v S' := by
  unfold L2.atI at e ⊢
  obtain ⟨j, h1, h2⟩ := Option.bind_eq_some_iff.mp e
  obtain ⟨v, S', h3, h4⟩ := r.get h2
  exact ⟨v, S', by rw [r.length, h1]; exact h3, h4⟩
theorem RepVs.cut {ds : List D} {vs : List V} (r : RepVs g F ds vs) (lo hi : Option Int) : RepVs g F (cutL ds lo hi) (cutV vs lo hi) := by
  unfold cutL cutV
  rw [r.length]
  exact (r.drop _).take _
theorem cut_nop {α : Type} (xs : List α) (lo hi : Option Int) (h : HT.sIx xs.length 0 lo = 0 ∧ HT.sIx xs.length xs.length hi = xs.length) : cutL xs lo hi = xs := by
  unfold cutL
  rw [h.1, h.2]
  simp
theorem atI_map {α β : Type} (f : α → β) (xs : List α) (i : Int) : L2.atI (xs.map f) i = (L2.atI xs i).map f := by
  unfold L2.atI
  rw [List.length_map]
  cases ixN xs.length i with
  | none => rfl
  | some j => simp
end
section
variable {W : WX} {X : Cx} {ca : Ca} {a b : Expr} {ta tb : TE} {f : M (O × O)} {pos p2 : Pos}
theorem ix_idxG : IxR X (rB (gv X ca) idxG) := by
  intro value slice pins s σ H x y v u Q I rx ry ⟨F, Gx, σ', ρ, oa, ob, S1, S2, res, st, ra, rb, e, yd⟩ hs
  unfold idxG at e
  split at e
  · obtain ⟨n, hn, rfl⟩ := Option.map_eq_some_iff.mp e
    cases rb.intV
    rw [RepO, RepV] at ra
    obtain ⟨p, rfl, q⟩ := ra
    exact ix_list value slice pins s σ H _ _ v u Q I rx ry ⟨p, _, _, .int n, rfl, rfl, SqL.mono st.le q, by rw [atI_map, hn]; rfl, yd.val st repI⟩ hs
  · obtain ⟨d, hd, rfl⟩ := Option.map_eq_some_iff.mp e
    cases rb.intV
    obtain ⟨p, vs, rfl, q, rv⟩ := dsT_ok st.le ra rfl
    obtain ⟨w, hw, rw'⟩ := rv.atI hd
    exact ix_tup value slice pins s σ H _ _ v u Q I rx ry ⟨p, vs, _, w, rfl, rfl, q, hw, yd.val st rw'⟩ hs
  · split at e
    · rename_i hz
      obtain ⟨c, hc, rfl⟩ := Option.map_eq_some_iff.mp e
      cases rb.intV; cases ra.strV
      exact ix_str value slice pins s σ H _ _ v u Q I rx ry ⟨_, _, c, rfl, rfl, lim_le hz, hc, yd.val st repS⟩ hs
    · cases e
  · obtain ⟨d, hd, rfl⟩ := Option.map_eq_some_iff.mp e
    cases rb.intV
    obtain ⟨p, vs, rfl, q, rv⟩ := dsL_ok st.le ra rfl
    obtain ⟨w, hw, rw'⟩ := rv.atI hd
    exact ix_list value slice pins s σ H _ _ v u Q I rx ry ⟨p, vs, _, w, rfl, rfl, SqL.of q, hw, yd.val st rw'⟩ hs
  · rename_i os i
    cases rb.intV
    rw [RepO] at ra
    obtain ⟨p, vs, rfl, sa, q, rv⟩ := ra
    cases ho : atI os i with
    | none => rw [ho] at e; cases e
    | some o =>
      rw [ho] at e
      cases o with
      | val d =>
        cases e
        obtain ⟨w, S', hw, rw'⟩ := rv.atI ho
        rw [RepO] at rw'
        exact ix_list value slice pins s σ H _ _ v u Q I rx ry ⟨p, vs, _, w, rfl, rfl, SqL.of q, hw, yd.val st rw'⟩ hs
      | _ => cases e
  · cases e
theorem e_idx (p : Pr (gv X ca) W ta tb f) (ha : PE X a ta) (hb : PE X b tb) (hs : PlainIx b := by exact fun _ _ => rfl) : PE X (.Subscript a b pos) (T (gv X ca) W (binF idxG f)) :=
  PE.imp (pe_ix ix_idxG ha hb hs) fun σ H Q ⟨F, Gx, ρ, st, r⟩ => p σ H _ ⟨F, Gx, ρ, st, r.bind.mono fun p H' F' ρ' le r1 x y S1 S2 st' rx ry => by
    obtain ⟨res, e, q⟩ := r1.of
    exact ⟨F', Gx, σ, ρ', _, _, S1, S2, res, st', rx, ry, e, fun v H2 F2 le2 st2 => q H2 F2 le2 v st2⟩⟩
def rSl (g : Gv) : V → Option Int → Option Int → Hp → VK → Prop := fun x lo hi H Q => ∃ F Gx σ ρ oa S1 res, StG g H F Gx σ ρ [] ∧ RepO g H F oa x S1 ∧ sliG oa lo hi = some res ∧ Yd g H F Gx σ ρ res Q
theorem sl_sliG : SlR X (rSl (gv X ca)) := by
  intro pins s σ H x v vl vu lo hi sl Q I rx hs pl pu ⟨F, Gx, σ', ρ, oa, S1, res, st, ra, e, yd⟩
  unfold sliG at e
  split at e
  · cases e
    obtain ⟨p, vs, rfl, q, rv⟩ := dsT_ok st.le ra rfl
    refine sl_tupA pins s σ H _ v vl vu lo hi sl Q I rx hs pl pu ⟨p, vs, rfl, q, fun h0 => ?_, fun h0 => yd.tup st (rv.cut lo hi)⟩
    rw [rv.length] at h0
    rw [cut_nop _ lo hi h0] at yd
    rw [RepO] at ra
    exact yd.val st ra
  · split at e
    · rename_i hz
      cases e
      cases ra.strV
      exact sl_str pins s σ H _ v vl vu lo hi sl Q I rx hs pl pu ⟨_, rfl, lim_le hz, yd.val st repS⟩
    · cases e
  · split at e
    · rename_i ds hd
      cases e
      obtain ⟨p, vs, rfl, q, rv⟩ := dsL_ok st.le ra hd
      exact sl_list pins s σ H _ v vl vu lo hi sl Q I rx hs pl pu ⟨p, vs, rfl, SqL.of q, yd.lst st (rv.cut lo hi)⟩
    · cases e
def TI (g : Gv) (W : WX) (f : M (Option Int)) : TO := fun σ H Q => ∃ F Gx ρ, StG g H F Gx σ ρ [] ∧ Rn g W f σ H F Gx ρ fun i H' F' ρ' => StG g H' F' Gx σ ρ' [] → Q i H'
theorem PO.imp {e : Option Expr} {t t' : TO} (h : PO X e t) (i : ∀ σ H Q, t' σ H Q → t σ H Q) : PO X e t' := ⟨fun pins s σ H Q I q => h.run pins s σ H Q I (i σ H Q q)⟩
theorem p_none {g : Gv} : PO X none (TI g W (M.pure none)) := PO.imp po_none fun σ H Q ⟨F, Gx, ρ, st, r⟩ => r.pure H F (Le.refl F) st
theorem p_some {g : Gv} {e : Expr} {f : M O} (h : PE X e (TR g W f)) : PO X (some e) (TI g W (f.bind asI)) := PO.imp (po_some h) fun σ H Q ⟨F, Gx, ρ, st, r⟩ => by
  refine ⟨F, Gx, ρ, st, r.bind.mono fun o H' F' ρ' le r1 v S st' rv => ?_⟩
  obtain ⟨r2, ρ2, e2⟩ := r1.run
  unfold asI at r1 e2
  split at e2
  · cases rv.intV
    exact ⟨_, rfl, r1.pure H' F' (Le.refl F') st'⟩
  · cases e2
def sliF (f : M O) (fl fh : M (Option Int)) : M O := f.bind fun a => fl.bind fun l => fh.bind fun h => M.of (sliG a l h)
def sliP (i : Nat) (fl fh : M (Option Int)) : M O := (pk i).bind fun _ => fl.bind fun l => fh.bind fun h => (pk i).bind fun a => M.of (sliG a l h)
theorem e_sli {lo hi : Option Expr} {fa : M O} {fl fh : M (Option Int)} (ha : PE X a (T (gv X ca) W fa)) (hl : PO X lo (TI (gv X ca) W fl)) (hh : PO X hi (TI (gv X ca) W fh)) : PE X (.Subscript a (.Slice lo hi none p2) pos) (T (gv X ca) W (sliF fa fl fh)) :=
  PE.imp (pe_slice sl_sliG ha hl hh) fun σ H Q ⟨F, Gx, ρ, st, r⟩ => by
    refine ⟨F, Gx, ρ, st, r.bind.mono fun a H1 F1 ρ1 le r1 v st1 => ?_⟩
    obtain ⟨Gx', st1', back⟩ := st1.aside
    refine ⟨F1, Gx', ρ1, st1', (r1.aside fun H' F' ρ' le q => (back H' F' ρ' [] le q).drop1).bind.mono fun l H2 F2 ρ2 le2 r2 st2 => ?_⟩
    refine ⟨F2, Gx', ρ2, st2, r2.bind.mono fun h H3 F3 ρ3 le3 r3 st3 => ?_⟩
    have st4 := back H3 F3 ρ3 [] (le2.trans le3) st3
    obtain ⟨S1, rv⟩ := Good.view (B := [] ++ slL σ ρ3) st4.gd
    obtain ⟨res, e, q⟩ := r3.of
    exact ⟨F3, Gx, σ, ρ3, a, S1, res, st4.drop1, rv, e, fun v' H' F' le' st' => q H' F' le' v' st'⟩
theorem e_sliP (i : Nat) {lo hi : Option Expr} {fl fh : M (Option Int)} (ha : PE X a (tVar i)) (hl : PO X lo (TI (gv X ca) W fl)) (hh : PO X hi (TI (gv X ca) W fh)) : PE X (.Subscript a (.Slice lo hi none p2) pos) (T (gv X ca) W (sliP i fl fh)) :=
  PE.imp (pe_slice sl_sliG ha hl hh) fun σ H Q ⟨F, Gx, ρ, st, r⟩ => by
    obtain ⟨a0, ha0, r⟩ := r.pk
    obtain ⟨v, hv⟩ := st.wf i a0 ha0
    refine ⟨v, hv, F, Gx, ρ, st, r.bind.mono fun l H2 F2 ρ2 le2 r2 st2 => ?_⟩
    refine ⟨F2, Gx, ρ2, st2, r2.bind.mono fun h H3 F3 ρ3 le3 r3 st3 => ?_⟩
    obtain ⟨a, ha, r3⟩ := r3.pk
    obtain ⟨v', S', hv', rv⟩ := st3.peek ha
    rw [hv] at hv'; cases hv'
    obtain ⟨res, e, q⟩ := r3.of
    exact ⟨F3, Gx, σ, ρ3, a, S', res, st3, rv, e, fun v' H' F' le' st' => q H' F' le' v' st'⟩
end
end PF

set_option Elab.async false
set_option linter.all false
set_option maxRecDepth 100000
set_option maxHeartbeats 2000000
namespace PF
open PySem PySem.Spec PyProof.Rows L2

/-! ### statements -/
inductive Out where
  | nx | rt (o : O) | bk | ct
/-- slots that no statement stores -/
def Pin (pn : List Nat) (σ σ' : L2.St) : Prop := σ'.length = σ.length ∧ ∀ i ∈ pn, σ'[i]? = σ[i]?
theorem Pin.refl {pn : List Nat} (σ : L2.St) : Pin pn σ σ := ⟨rfl, fun _ _ => rfl⟩
theorem Pin.trans {pn : List Nat} {σ σ1 σ2 : L2.St} (a : Pin pn σ σ1) (b : Pin pn σ1 σ2) : Pin pn σ σ2 := ⟨b.1.trans a.1, fun i h => (b.2 i h).trans (a.2 i h)⟩
theorem Pin.set {pn : List Nat} {σ : L2.St} {i : Nat} {s : Option V} (h : i ∉ pn) : Pin pn σ (σ.set i s) := ⟨by simp, fun j hj => by
  have ne : i ≠ j := fun e => h (by rw [e]; exact hj)
  rw [List.getElem?_set_ne ne]⟩
section
variable (g : Gv) (W : WX) (pn : List Nat)
/-- what a statement's run asks -/
def Rs {α : Type} (f : M α) (σ : L2.St) (F Gx : Hp) (ρ : Sls) (R : α → Hp → Hp → L2.St → Sls → Prop) : Prop := match f ρ with
  | none => False
  | some (.ok a, ρ') => ∀ H' F' σ', Le F F' → Pin pn σ σ' → R a H' F' σ' ρ'
  | some (.ex e, ρ') => ∀ H' F' σ' d, Le F F' → Pin pn σ σ' → StG g H' F' Gx σ' ρ' [] → XAt g F' e d → W (.ref (g.ca e.cls)) d σ' H'
def EndR (Gx : Hp) (D : Ends) : Out → Hp → Hp → L2.St → Sls → Prop
  | .nx, H', F', σ', ρ' => StG g H' F' Gx σ' ρ' [] → D.nx σ' H'
  | .bk, H', F', σ', ρ' => StG g H' F' Gx σ' ρ' [] → D.bk σ' H'
  | .ct, H', F', σ', ρ' => StG g H' F' Gx σ' ρ' [] → D.ct σ' H'
  | .rt o, H', F', σ', ρ' => ∀ v, StG g H' F' Gx σ' ρ' [(v, o)] → D.rt v H'
def Ts (f : M Out) : L2.TS := fun D σ H => ∃ F Gx ρ, StG g H F Gx σ ρ [] ∧ Rs g W pn f σ F Gx ρ (EndR g Gx D)
end
section
variable {g : Gv} {W : WX} {pn : List Nat} {α β : Type}
theorem Rs.mono {f : M α} {σ : L2.St} {F Gx : Hp} {ρ : Sls} {R R' : α → Hp → Hp → L2.St → Sls → Prop} (h : Rs g W pn f σ F Gx ρ R) (i : ∀ a H' F' σ' ρ', Le F F' → Pin pn σ σ' → R a H' F' σ' ρ' → R' a H' F' σ' ρ') : Rs g W pn f σ F Gx ρ R' := by
  unfold Rs at h ⊢
  split <;> rename_i q <;> rw [q] at h
  · exact h
  · exact fun H' F' σ' le p => i _ _ _ _ _ le p (h H' F' σ' le p)
  · exact h
theorem Rs.run {f : M α} {σ : L2.St} {F Gx : Hp} {ρ : Sls} {R : α → Hp → Hp → L2.St → Sls → Prop} (h : Rs g W pn f σ F Gx ρ R) : ∃ r ρ', f ρ = some (r, ρ') := by
  unfold Rs at h
  cases q : f ρ with
  | none => rw [q] at h; exact h.elim
  | some p => exact ⟨p.1, p.2, rfl⟩
theorem Rs.ok {f : M α} {σ : L2.St} {F Gx : Hp} {ρ ρ' : Sls} {R : α → Hp → Hp → L2.St → Sls → Prop} {a : α} (h : Rs g W pn f σ F Gx ρ R) (e : f ρ = some (.ok a, ρ')) : ∀ H' F' σ', Le F F' → Pin pn σ σ' → R a H' F' σ' ρ' := by
  unfold Rs at h; rw [e] at h; exact h
theorem Rs.pure {σ : L2.St} {F Gx : Hp} {ρ : Sls} {R : α → Hp → Hp → L2.St → Sls → Prop} {a : α} (h : Rs g W pn (M.pure a) σ F Gx ρ R) : ∀ H' F' σ', Le F F' → Pin pn σ σ' → R a H' F' σ' ρ := h
theorem Rs.bind {f : M α} {k : α → M β} {σ : L2.St} {F Gx : Hp} {ρ : Sls} {R : β → Hp → Hp → L2.St → Sls → Prop} (h : Rs g W pn (f.bind k) σ F Gx ρ R) :
    Rs g W pn f σ F Gx ρ fun a H' F' σ' ρ' => Rs g W pn (k a) σ' F' Gx ρ' R := by
  unfold Rs M.bind at *
  cases q : f ρ with
  | none => rw [q] at h; exact h
  | some p =>
    obtain ⟨r, ρ'⟩ := p
    rw [q] at h
    cases r with
    | ex e => exact h
    | ok a =>
      intro H' F' σ' le p
      show match k a ρ' with | none => False | some (.ok a, ρ') => _ | some (.ex e, ρ') => _
      have h : match k a ρ' with | none => False | some (.ok a, ρ') => ∀ H' F' σ', Le F F' → Pin pn σ σ' → R a H' F' σ' ρ' | some (.ex e, ρ') => ∀ H' F' σ' d, Le F F' → Pin pn σ σ' → StG g H' F' Gx σ' ρ' [] → XAt g F' e d → W (.ref (g.ca e.cls)) d σ' H' := h
      split <;> rename_i q2 <;> rw [q2] at h
      · exact h
      · exact fun H2 F2 σ2 le2 p2 => h H2 F2 σ2 (le.trans le2) (p.trans p2)
      · exact fun H2 F2 σ2 d le2 p2 => h H2 F2 σ2 d (le.trans le2) (p.trans p2)
/-- an expression's run within a statement's -/
theorem Rs.expr {f : M α} {k : α → M β} {σ : L2.St} {H F Gx : Hp} {ρ : Sls} {R : β → Hp → Hp → L2.St → Sls → Prop} (h : Rs g W pn (f.bind k) σ F Gx ρ R) :
    Rn g W f σ H F Gx ρ fun a H' F' ρ' => Rs g W pn (k a) σ F' Gx ρ' R := by
  have h := h.bind
  unfold Rs at h
  unfold Rn
  cases q : f ρ with
  | none => rw [q] at h; exact h
  | some p =>
    obtain ⟨r, ρ'⟩ := p
    rw [q] at h
    cases r with
    | ex e => exact fun H' F' d le st x => h H' F' σ d le (Pin.refl σ) st x
    | ok a => exact fun H' F' le => h H' F' σ le (Pin.refl σ)
theorem Rs.pin {f : M α} {σ σ1 : L2.St} {F Gx : Hp} {ρ : Sls} {R : α → Hp → Hp → L2.St → Sls → Prop} (h : Rs g W pn f σ F Gx ρ R) (p : Pin pn σ σ1) : Rs g W pn f σ1 F Gx ρ R := by
  unfold Rs at h ⊢
  split <;> rename_i q <;> rw [q] at h
  · exact h
  · exact fun H' F' σ' le p2 => h H' F' σ' le (p.trans p2)
  · exact fun H' F' σ' d le p2 => h H' F' σ' d le (p.trans p2)
theorem PS.imp {X : Cx} {st : Stmt} {t t' : L2.TS} (h : PS X st t) (i : ∀ D σ H, t' D σ H → t D σ H) : PS X st t' := ⟨fun pins s σ H D I q => h.run pins s σ H D I (i D σ H q)⟩
theorem PSs.imp {X : Cx} {st : List Stmt} {t t' : L2.TS} (h : PSs X st t) (i : ∀ D σ H, t' D σ H → t D σ H) : PSs X st t' := ⟨fun pins s σ H D I q => h.run pins s σ H D I (i D σ H q)⟩
end
def seqS (f k : M Out) : M Out := f.bind fun o => match o with
  | .nx => k
  | o => M.pure o
/-- a slot is stored -/
def putS (i : Nat) (o : O) : M Unit := fun ρ => if i < ρ.length then some (.ok (), ρ.set i (some o)) else none
def setS (i : Nat) (f : M O) : M Out := f.bind fun o => (putS i o).bind fun _ => M.pure .nx
def retS (f : M O) : M Out := f.bind fun o => M.pure (.rt o)
def exprS (f : M O) : M Out := f.bind fun _ => M.pure .nx
section
variable {g : Gv} {W : WX} {pn : List Nat} {X : Cx} {st : Stmt} {rest : List Stmt} {f k : M Out} {e c : Expr} {pos : Pos}
theorem s_nil : PSs X [] (Ts g W pn (M.pure .nx)) := PSs.imp pss_nil fun D σ H ⟨F, Gx, ρ, st, r⟩ => r.pure H F σ (Le.refl F) (Pin.refl σ) st
theorem s_cons (h1 : PS X st (Ts g W pn f)) (h2 : PSs X rest (Ts g W pn k)) : PSs X (st :: rest) (Ts g W pn (seqS f k)) :=
  PSs.imp (pss_cons h1 h2) fun D σ H ⟨F, Gx, ρ, st, r⟩ => ⟨F, Gx, ρ, st, r.bind.mono fun out H' F' σ' ρ' le p r1 => by
    cases out with
    | nx => exact fun st' => ⟨F', Gx, ρ', st', r1⟩
    | rt o => exact r1.pure H' F' σ' (Le.refl _) (Pin.refl _)
    | bk => exact r1.pure H' F' σ' (Le.refl _) (Pin.refl _)
    | ct => exact r1.pure H' F' σ' (Le.refl _) (Pin.refl _)⟩
theorem s_one (h1 : PS X st (Ts g W pn f)) : PSs X [st] (Ts g W pn f) := pss_one h1
theorem Ts_put {i : Nat} {o : O} {k : M Out} {D : Ends} {σ : L2.St} {H F Gx : Hp} {ρ : Sls} {v : V} (hi : i ∉ pn) (st : StG g H F Gx σ ρ [(v, o)]) (r : Rs g W pn ((putS i o).bind fun _ => k) σ F Gx ρ (EndR g Gx D)) : Ts g W pn k D (σ.set i (some v)) H := by
  by_cases hl : i < ρ.length
  · have e : putS i o ρ = some (.ok (), ρ.set i (some o)) := by unfold putS; rw [if_pos hl]
    exact ⟨F, Gx, ρ.set i (some o), st.store hl, r.bind.ok e H F (σ.set i (some v)) (Le.refl F) (Pin.set hi)⟩
  · exfalso
    obtain ⟨_, _, e⟩ := r.run
    unfold M.bind putS at e
    rw [if_neg hl] at e
    cases e
theorem Ts_nx {D : Ends} {σ : L2.St} {H : Hp} (h : Ts g W pn (M.pure .nx) D σ H) : D.nx σ H := by
  obtain ⟨F, Gx, ρ, st, r⟩ := h
  exact r.pure H F σ (Le.refl F) (Pin.refl σ) st
theorem s_set {i : Nat} {x : Str} {pos' : Pos} {f : M O} (hN : X.N.Nodup) (hi : X.N[i]? = some x) (hx : Loc X.env.scope x) (hp : i ∉ pn) (he : PE X e (T g W f)) (hs : swapsWith e (some (.Name x pos')) pos.line X.env = pure false := by rfl) (hf : X.fn x = true ∨ X.env.scope.names.lookup x = some .local := by first | exact .inl rfl | exact .inr rfl | assumption) :
    PS X (.Assign [.Name x pos'] e pos) (Ts g W pn (setS i f)) :=
  PS.imp (ps_set hN hi hx he hs hf) fun D σ H ⟨F, Gx, ρ, st, r⟩ => ⟨F, Gx, ρ, st, r.expr.mono fun o H' F' ρ' le r1 v st' => Ts_nx (Ts_put hp st' r1)⟩
theorem s_expr {f : M O} (he : PE X e (T g W f)) (hs : swapsWith e none pos.line X.env = pure false := by rfl) : PS X (.Expr e pos) (Ts g W pn (exprS f)) :=
  PS.imp (ps_expr he hs) fun D σ H ⟨F, Gx, ρ, st, r⟩ => ⟨F, Gx, ρ, st, r.expr.mono fun o H' F' ρ' le r1 v st' => r1.pure H' F' σ (Le.refl _) (Pin.refl _) st'.drop1⟩
theorem s_ret {f : M O} (he : PE X e (T g W f)) : PS X (.Return (some e) pos) (Ts g W pn (retS f)) :=
  PS.imp (ps_ret he) fun D σ H ⟨F, Gx, ρ, st, r⟩ => ⟨F, Gx, ρ, st, r.expr.mono fun o H' F' ρ' le r1 v st' => r1.pure H' F' σ (Le.refl _) (Pin.refl _) v st'⟩
theorem s_retN : PS X (.Return none pos) (Ts g W pn (M.pure (.rt (.val .non)))) :=
  PS.imp ps_retN fun D σ H ⟨F, Gx, ρ, st, r⟩ => r.pure H F σ (Le.refl _) (Pin.refl _) .non (st.ofVal repN)
theorem s_if {fc : M Bool} {a b : List Stmt} {fa fb : M Out} (hc : PT X c (Tt g W fc)) (ha : PSs X a (Ts g W pn fa)) (hb : PSs X b (Ts g W pn fb)) : PS X (.If c a b pos) (Ts g W pn (iteM fc fa fb)) :=
  PS.imp (ps_if hc ha hb) fun D σ H ⟨F, Gx, ρ, st, r⟩ => ⟨F, Gx, ρ, st, r.expr.mono fun b H' F' ρ' le r1 st' => by
    cases b with
    | true => exact ⟨F', Gx, ρ', st', r1⟩
    | false => exact ⟨F', Gx, ρ', st', r1⟩⟩
theorem s_pass : PS X (.Pass pos) (Ts g W pn (M.pure .nx)) := PS.imp ps_pass fun D σ H h => Ts_nx h
theorem s_break : PS X (.Break pos) (Ts g W pn (M.pure .bk)) := PS.imp ps_break fun D σ H ⟨F, Gx, ρ, st, r⟩ => r.pure H F σ (Le.refl F) (Pin.refl σ) st
theorem s_continue : PS X (.Continue pos) (Ts g W pn (M.pure .ct)) := PS.imp ps_continue fun D σ H ⟨F, Gx, ρ, st, r⟩ => r.pure H F σ (Le.refl F) (Pin.refl σ) st
theorem s_never : PS X st (Ts g W pn M.stuck) := ⟨fun pins s σ H D I ⟨F, Gx, ρ, st, r⟩ => by obtain ⟨_, _, e⟩ := r.run; cases e⟩
theorem ss_never {sts : List Stmt} : PSs X sts (Ts g W pn M.stuck) := ⟨fun pins s σ H D I ⟨F, Gx, ρ, st, r⟩ => by obtain ⟨_, _, e⟩ := r.run; cases e⟩
theorem e_never : PE X e (T g W M.stuck) := ⟨fun pins s σ H Q I ⟨F, Gx, ρ, st, r⟩ => by obtain ⟨_, _, e⟩ := r.run; cases e⟩
end

/-! ### targets -/
section
variable (g : Gv) (W : WX) (pn : List Nat)
def Tg (h : O → M Unit) : TG := fun v σ H Q => ∃ F Gx ρ o, StG g H F Gx σ ρ [(v, o)] ∧ Rs g W pn (h o) σ F Gx ρ fun _ H' F' σ' ρ' => StG g H' F' Gx σ' ρ' [] → Q σ' H'
/-- several targets, one value each -/
def Tgs (h : List D → M Unit) : TGs := fun vs σ H Q => ∃ F Gx ρ ds, StG g H F Gx σ ρ [] ∧ RepVs g F ds vs ∧ Rs g W pn (h ds) σ F Gx ρ fun _ H' F' σ' ρ' => StG g H' F' Gx σ' ρ' [] → Q σ' H'
end
def nmT (i : Nat) : O → M Unit := putS i
def nilT : List D → M Unit := fun ds => match ds with
  | [] => M.pure ()
  | _ => M.stuck
def consT (h : O → M Unit) (hs : List D → M Unit) : List D → M Unit := fun ds => match ds with
  | d :: ds => (h (.val d)).bind fun _ => hs ds
  | _ => M.stuck
def tupT (n : Nat) (hs : List D → M Unit) : O → M Unit := fun o => match o with
  | .val (.tup ds) => if ds.length = n then hs ds else M.stuck
  | _ => M.stuck
def asgS (f : M O) (h : O → M Unit) : M Out := f.bind fun o => (h o).bind fun _ => M.pure .nx
section
variable {g : Gv} {W : WX} {pn : List Nat} {X : Cx} {ca : Ca} {tg e : Expr} {es : List Expr} {h : O → M Unit} {hs : List D → M Unit} {pos : Pos}
theorem PG.imp {t t' : TG} (h : PG X tg t) (i : ∀ v σ H Q, t' v σ H Q → t v σ H Q) : PG X tg t' := ⟨fun pins s σ H v u Q I r q => h.run pins s σ H v u Q I r (i v σ H Q q)⟩
theorem PGs.imp {t t' : TGs} (h : PGs X es t) (i : ∀ v σ H Q, t' v σ H Q → t v σ H Q) : PGs X es t' := ⟨fun pins s σ H v u Q I r q => h.run pins s σ H v u Q I r (i v σ H Q q)⟩
theorem put_run {i : Nat} {o : O} {σ : L2.St} {F Gx : Hp} {ρ : Sls} {R : Unit → Hp → Hp → L2.St → Sls → Prop} (r : Rs g W pn (putS i o) σ F Gx ρ R) : i < ρ.length ∧ ∀ H' F' σ', Le F F' → Pin pn σ σ' → R () H' F' σ' (ρ.set i (some o)) := by
  by_cases hl : i < ρ.length
  · exact ⟨hl, r.ok (by unfold putS; rw [if_pos hl])⟩
  · exfalso
    obtain ⟨_, _, e⟩ := r.run
    unfold putS at e
    rw [if_neg hl] at e
    cases e
theorem g_name {i : Nat} {x : Str} (hN : X.N.Nodup) (hi : X.N[i]? = some x) (hx : Loc X.env.scope x) (hp : i ∉ pn) (hf : X.fn x = true ∨ X.env.scope.names.lookup x = some .local := by first | exact .inl rfl | exact .inr rfl | assumption) : PG X (.Name x pos) (Tg g W pn (nmT i)) :=
  PG.imp (pg_name hN hi hx hf) fun v σ H Q ⟨F, Gx, ρ, o, st, r⟩ => by
    obtain ⟨hl, q⟩ := put_run r
    exact q H F _ (Le.refl F) (Pin.set hp) (st.store hl)
theorem gs_nil : PGs X [] (Tgs g W pn nilT) := PGs.imp pgs_nil fun vs σ H Q ⟨F, Gx, ρ, ds, st, rv, r⟩ => by
  cases ds with
  | nil => rw [RepVs] at rv; exact ⟨rv, r.pure H F σ (Le.refl F) (Pin.refl σ) st⟩
  | cons d ds => obtain ⟨_, _, e⟩ := r.run; cases e
theorem gs_cons (h1 : PG X e (Tg g W pn h)) (h2 : PGs X es (Tgs g W pn hs)) (hst : (assignEach (e :: es) X.env).map (·.2) = assign e X.env :: (assignEach es X.env).map (·.2) := by rfl) : PGs X (e :: es) (Tgs g W pn (consT h hs)) :=
  PGs.imp (pgs_cons h1 h2 hst) fun vs σ H Q ⟨F, Gx, ρ, ds, st, rv, r⟩ => by
    cases ds with
    | nil => obtain ⟨_, _, e⟩ := r.run; cases e
    | cons d ds =>
      rw [RepVs] at rv
      obtain ⟨v, w, rfl, r1, r2⟩ := rv
      refine ⟨v, w, rfl, F, Gx, ρ, .val d, st.ofVal r1, r.bind.mono fun _ H' F' σ' ρ' le p q st' => ⟨F', Gx, ρ', ds, st', RepVs.mono g le _ _ r2, q⟩⟩
theorem g_tup {k n : Nat} (hc : X.calm = true) (hh : PGs X es (Tgs (gv X ca) W pn hs)) (hn : (assignEach es X.env).length = n := by rfl) (hst : (assignEach es X.env).findIdx? (·.1) = none := by rfl) : PG X (.Tuple es k pos) (Tg (gv X ca) W pn (tupT n hs)) :=
  PG.imp (pg_tup hc hh hn hst) fun v σ H Q ⟨F, Gx, ρ, o, st, r⟩ => by
    obtain ⟨_, _, e⟩ := r.run
    unfold tupT at r e
    split at r
    · rename_i ds
      split at r
      · rename_i hl
        have rv := st.gd.val (B := slL σ ρ)
        rw [RepV] at rv
        obtain ⟨a, vs, rfl, q, rvs⟩ := rv
        exact ⟨a, vs, rfl, SqT.mono st.le q, by rw [rvs.length]; exact hl, F, Gx, ρ, ds, st.drop1, rvs, r⟩
      · rename_i hl
        simp only [hl] at e; cases e
    · simp at e; cases e
theorem s_asg {f : M O} (he : PE X e (T g W f)) (hg : PG X tg (Tg g W pn h)) (hs : swapsWithSole [tg] e pos.line X.env = pure false := by rfl) (hw : swappedStores [tg] e X.env = pure none := by rfl)
    (h1 : (assignEach [tg] X.env).map (·.2) = [assign tg X.env] := by rfl) : PS X (.Assign [tg] e pos) (Ts g W pn (asgS f h)) :=
  PS.imp (ps_asg he hg hs hw h1) fun D σ H ⟨F, Gx, ρ, st, r⟩ => ⟨F, Gx, ρ, st, r.expr.mono fun o H' F' ρ' le r1 v st' => ⟨F', Gx, ρ', o, st', r1.bind.mono fun _ H2 F2 σ2 ρ2 le2 p2 r2 st2 => r2.pure H2 F2 σ2 (Le.refl _) (Pin.refl _) st2⟩⟩
end

/-! ### what a def promises -/
def mask : List Bool → Sls → Sls
  | true :: ms, s :: ρ => s :: mask ms ρ
  | false :: ms, _ :: ρ => none :: mask ms ρ
  | _, _ => []
def spOf (g : Gv) (ms : List Bool) (sem : M O) : Sp := fun vs H Q E => vs.length = ms.length ∧ ∃ F Gx ρ, StG g H F Gx (vs.map some) ρ [] ∧ match sem ρ with
  | none => False
  | some (.ok o, ρ') => ∀ v H' F', Le F F' → StG g H' F' Gx (vs.map some) (mask ms ρ') [(v, o)] → Q v H'
  | some (.ex e, ρ') => ∀ d H' F', Le F F' → StG g H' F' Gx (vs.map some) (mask ms ρ') [] → XAt g F' e d → E (.ref (g.ca e.cls)) d H'
/-- a def's run: n slots, the parameters first -/
def defM (n : Nat) (f : M Out) : M O := fun ρ => match f (ρ ++ List.replicate (n - ρ.length) none) with
  | some (.ok (.rt o), ρ') => some (.ok o, ρ')
  | some (.ok .nx, ρ') => some (.ok (.val .non), ρ')
  | some (.ex e, ρ') => some (.ex e, ρ')
  | _ => none
def Fn (Ms : List Bool) (k : Nat) : Prop := True
/-- the slots that are handed back -/
def pinOf : Nat → List Bool → List Nat
  | _, [] => []
  | i, true :: ms => i :: pinOf (i + 1) ms
  | i, false :: ms => pinOf (i + 1) ms
theorem pinOf_mem : ∀ (ms : List Bool) (i j : Nat), ms[j]? = some true → i + j ∈ pinOf i ms
  | [], i, j, h => by simp at h
  | true :: ms, i, 0, h => by simp [pinOf]
  | false :: ms, i, 0, h => by simp at h
  | b :: ms, i, j + 1, h => by
    have q := pinOf_mem ms (i + 1) j (by simpa using h)
    have e : i + 1 + j = i + (j + 1) := by omega
    rw [e] at q
    cases b
    · exact q
    · exact List.mem_cons_of_mem _ q
/-- some slots of others -/
theorem slL_sub : ∀ (ms : List Bool) (σ τ : L2.St) (ρ : Sls), τ.length = ms.length → σ.length = ρ.length → (∀ (j : Nat), ms[j]? = some true → σ[j]? = τ[j]?) → ∃ rest, (slL σ ρ).Perm (slL τ (mask ms ρ) ++ rest)
  | [], σ, [], ρ, _, _, _ => ⟨slL σ ρ, by simp [mask, slL]⟩
  | b :: ms, [], t :: τ, ρ, h1, h2, h3 => by
    have e : ρ = [] := List.eq_nil_of_length_eq_zero (by simpa using h2.symm)
    subst e
    refine ⟨[], ?_⟩
    cases b <;> simp [mask, slL]
  | b :: ms, s :: σ, t :: τ, [], h1, h2, h3 => by simp at h2
  | false :: ms, s :: σ, t :: τ, r :: ρ, h1, h2, h3 => by
    obtain ⟨rest, ih⟩ := slL_sub ms σ τ ρ (by simpa using h1) (by simpa using h2) fun j hj => by simpa using h3 (j + 1) (by simpa using hj)
    rw [mask, slL_none]
    cases s with
    | none => rw [slL_drop]; exact ⟨rest, ih⟩
    | some v =>
      cases r with
      | none => rw [slL_none]; exact ⟨rest, ih⟩
      | some o => exact ⟨(v, o) :: rest, (ih.cons (v, o)).trans List.perm_middle.symm⟩
  | true :: ms, s :: σ, t :: τ, r :: ρ, h1, h2, h3 => by
    obtain ⟨rest, ih⟩ := slL_sub ms σ τ ρ (by simpa using h1) (by simpa using h2) fun j hj => by simpa using h3 (j + 1) (by simpa using hj)
    have e : s = t := by simpa using h3 0 (by simp)
    subst e
    rw [mask]
    cases s with
    | none => rw [slL_drop, slL_drop]; exact ⟨rest, ih⟩
    | some v =>
      cases r with
      | none => rw [slL_none, slL_none]; exact ⟨rest, ih⟩
      | some o => exact ⟨rest, ih.cons (v, o)⟩
  | [], σ, _ :: _, ρ, h, _, _ => by simp at h
  | _ :: _, _, [], _, h, _, _ => by simp at h
theorem mask_len : ∀ (ms : List Bool) (ρ : Sls), ms.length ≤ ρ.length → (mask ms ρ).length = ms.length
  | [], ρ, _ => by simp [mask]
  | true :: ms, r :: ρ, h => by simp [mask, mask_len ms ρ (by simpa using h)]
  | false :: ms, r :: ρ, h => by simp [mask, mask_len ms ρ (by simpa using h)]
  | _ :: _, [], h => by simp at h
theorem StG.masked {g : Gv} {H F Gx : Hp} {σ : L2.St} {ρ : Sls} {L : List (V × O)} {ms : List Bool} {vs : List V} (st : StG g H F Gx σ ρ L) (h1 : vs.length = ms.length) (h2 : ms.length ≤ ρ.length) (h3 : ∀ (j : Nat), ms[j]? = some true → σ[j]? = (vs.map some)[j]?) : StG g H F Gx (vs.map some) (mask ms ρ) L := by
  obtain ⟨rest, p⟩ := slL_sub ms σ (vs.map some) ρ (by simpa using h1) st.len h3
  refine ⟨fun i o e => ?_, by rw [mask_len _ _ h2, List.length_map, h1], ?_⟩
  · have hl : i < (mask ms ρ).length := (List.getElem?_eq_some_iff.mp e).1
    rw [mask_len _ _ h2] at hl
    exact ⟨vs[i], by simp [h1, hl]⟩
  · have z := (st.gd.perm (p.append_left L))
    have z2 : Good g H F Gx ((L ++ slL (vs.map some) (mask ms ρ)) ++ rest) := by rw [List.append_assoc]; exact z
    exact z2.dropR
/-- more slots, nothing in them -/
theorem slL_more : ∀ (σ : L2.St) (ρ : Sls) (n : Nat), σ.length = ρ.length → slL (σ ++ List.replicate n none) (ρ ++ List.replicate n none) = slL σ ρ
  | [], [], n, _ => by
    induction n with
    | zero => rfl
    | succ n ih => rw [List.nil_append, List.nil_append] at *; rw [List.replicate_succ, List.replicate_succ, slL_none]; exact ih
  | s :: σ, r :: ρ, n, h => by
    have ih := slL_more σ ρ n (by simpa using h)
    cases s with
    | none => rw [List.cons_append, List.cons_append, slL_drop, slL_drop]; exact ih
    | some v =>
      cases r with
      | none => rw [List.cons_append, List.cons_append, slL_none, slL_none]; exact ih
      | some o => show (v, o) :: slL (σ ++ _) (ρ ++ _) = (v, o) :: slL σ ρ; rw [ih]
  | [], _ :: _, _, h => by simp at h
  | _ :: _, [], _, h => by simp at h
section
variable {P : Program} {w : World} {K : PySem.W.Frag} {mg : Str → Option Value} {base : Heap} {g : Gv}
theorem spOf_len {ms : List Bool} {sem : M O} : ∀ vs H Q E, spOf g ms sem vs H Q E → vs.length = ms.length := fun _ _ _ _ h => h.1
/-- a def keeps its promise if its body runs so -/
theorem d_ok {x qual : Str} {st : Stmt} {f : Addr} {fd : FuncData} {N ps : List Str} {k : Nat} {ca : Ca} {ms : List Bool} {b : M Out} (Fu : Fun K x qual st f fd) (S : FnScope N ps (defScope st)) (hl : ms.length = ps.length) (hN : ms.length ≤ N.length)
    (hbody : ∀ (cdv : Value) (A : Around) (outer : List Env) (s : Shared) (H : Hp) (E : XK), Room k (A.deeper (envOfC qual (defScope st) s.heap.objs.size f cdv)) →
      PSs (cxOf (L2.CX P w) P w K mg base N qual (defScope st) f cdv A outer s H E) (defBody st) (Ts ⟨P, w, K, ca⟩ (fun c d _ H => E c d H) (pinOf 0 ms) b)) :
    FnOk P w K mg base (L2.CX P w) (k + 1) f fd ps (spOf ⟨P, w, K, ca⟩ ms (defM N.length b)) := by
  refine Fu.okX S (fun vs H Q E h => h.1.trans hl) (fun cdv A outer s H vs Q E hr h => ⟨_, hbody cdv A outer s H E hr, ?_⟩)
  obtain ⟨hv, F, Gx, ρ, st, q⟩ := h
  have hlen : vs.length = ρ.length := by simpa using st.len
  have st' : StG ⟨P, w, K, ca⟩ H F Gx (L2.start N vs) (ρ ++ List.replicate (N.length - ρ.length) none) [] := by
    unfold L2.start
    rw [hlen]
    refine ⟨fun i o e => ?_, by simp [hlen], ?_⟩
    · by_cases hi : i < ρ.length
      · rw [List.getElem?_append_left hi] at e
        obtain ⟨v, hv⟩ := st.wf i o e
        exact ⟨v, by rw [List.getElem?_append_left (by simpa [hlen] using hi)]; exact hv⟩
      · rw [List.getElem?_append_right (by omega), List.getElem?_replicate] at e
        split at e <;> cases e
    · rw [slL_more _ _ _ (by simpa using hlen)]
      exact st.gd
  have pn : ∀ (σ' : L2.St), Pin (pinOf 0 ms) (L2.start N vs) σ' → ∀ (j : Nat), ms[j]? = some true → σ'[j]? = (vs.map some)[j]? := fun σ' hp j hj => by
    have hj2 : j < ms.length := (List.getElem?_eq_some_iff.mp hj).1
    have m := pinOf_mem ms 0 j hj
    rw [Nat.zero_add] at m
    rw [hp.2 j m]
    unfold L2.start
    rw [List.getElem?_append_left (by simp; omega)]
  refine ⟨F, Gx, _, st', ?_⟩
  unfold defM at q
  unfold Rs
  cases e : b (ρ ++ List.replicate (N.length - ρ.length) none) with
  | none => rw [e] at q; exact q
  | some p =>
    obtain ⟨r, ρ'⟩ := p
    rw [e] at q
    have wide : ∀ {H' F' : Hp} {σ' : L2.St} {L : List (V × O)}, StG ⟨P, w, K, ca⟩ H' F' Gx σ' ρ' L → Pin (pinOf 0 ms) (L2.start N vs) σ' → StG ⟨P, w, K, ca⟩ H' F' Gx (vs.map some) (mask ms ρ') L := fun st2 hp => by
      have hl2 : ms.length ≤ ρ'.length := by
        rw [← st2.len, hp.1]
        unfold L2.start
        simp
        omega
      exact st2.masked hv hl2 (pn _ hp)
    cases r with
    | ex x => exact fun H' F' σ' d le hp st2 hx => q d H' F' le (wide st2 hp) hx
    | ok out =>
      intro H' F' σ' le hp
      cases out with
      | nx => exact fun st2 => q .non H' F' le ((wide st2 hp).ofVal repN)
      | rt o => exact fun v st2 => q v H' F' le (wide st2 hp)
      | bk => exact q.elim
      | ct => exact q.elim
end
end PF

set_option Elab.async false
set_option linter.all false
set_option maxRecDepth 100000
set_option maxHeartbeats 2000000
namespace PF
open PySem PySem.Spec PyProof.Rows L2

/-! ### arguments: handed on (none), or a slot's own thing (some i) -/
def Mrg : List (Option Nat) → List V → L2.St → List V → Prop
  | [], us, _, vs => us = [] ∧ vs = []
  | none :: ks, us, σ, vs => ∃ u us' vs', us = u :: us' ∧ vs = u :: vs' ∧ Mrg ks us' σ vs'
  | some i :: ks, us, σ, vs => ∃ v vs', σ[i]? = some (some v) ∧ vs = v :: vs' ∧ Mrg ks us σ vs'
def TLm (g : Gv) (W : WX) (ks : List (Option Nat)) (fs : M (List O)) : TA := fun σ H Q => ∃ F Gx ρ, StG g H F Gx σ ρ [] ∧ Rn g W fs σ H F Gx ρ fun os H' F' ρ' => ∀ us vs, us.length = os.length → Mrg ks us σ vs → StG g H' F' Gx σ ρ' (us.zip os) → Q vs H'
def refA (i : Nat) (fs : M (List O)) : M (List O) := (pk i).bind fun _ => fs
section
variable {g : Gv} {W : WX} {X : Cx} {e : Expr} {es : List Expr} {f : M O} {fs : M (List O)} {ks : List (Option Nat)}
theorem m_nil : PA X [] (TLm g W [] nilA) := PA.imp pa_nil fun σ H Q ⟨F, Gx, ρ, st, r⟩ => r.pure H F (Le.refl F) [] [] rfl ⟨rfl, rfl⟩ st
theorem m_cons (ha : PE X e (T g W f)) (hr : PA X es (TLm g W ks fs)) (hs : starEach (e :: es) X.env = (false, eval e X.env) :: starEach es X.env := by rfl) : PA X (e :: es) (TLm g W (none :: ks) (consA f fs)) :=
  PA.imp (pa_cons ha hr hs) fun σ H Q ⟨F, Gx, ρ, st, r⟩ => by
    refine ⟨F, Gx, ρ, st, r.bind.mono fun o H1 F1 ρ1 le r1 v st1 => ?_⟩
    obtain ⟨Gx', st1', back⟩ := st1.aside
    refine ⟨F1, Gx', ρ1, st1', (r1.aside fun H' F' ρ' le q => (back H' F' ρ' [] le q).drop1).bind.mono fun os H2 F2 ρ2 le2 r2 us vs hl mg st2 => ?_⟩
    exact r2.pure H2 F2 (Le.refl _) (v :: us) (v :: vs) (by simp [hl]) ⟨v, us, vs, rfl, rfl, mg⟩ (back H2 F2 ρ2 _ le2 st2)
theorem m_ref (i : Nat) (ha : PE X e (tVar i)) (hr : PA X es (TLm g W ks fs)) (hs : starEach (e :: es) X.env = (false, eval e X.env) :: starEach es X.env := by rfl) : PA X (e :: es) (TLm g W (some i :: ks) (refA i fs)) :=
  PA.imp (pa_cons ha hr hs) fun σ H Q ⟨F, Gx, ρ, st, r⟩ => by
    obtain ⟨a0, ha0, r⟩ := r.pk
    obtain ⟨v, hv⟩ := st.wf i a0 ha0
    exact ⟨v, hv, F, Gx, ρ, st, r.mono fun os H1 F1 ρ1 le q us vs hl mg st1 => q us (v :: vs) hl ⟨v, vs, hv, rfl, mg⟩ st1⟩
end
def bld : List (Option Nat) → List O → Sls → Option (Sls × Sls)
  | [], [], ρ => some ([], ρ)
  | none :: ks, o :: os, ρ => (bld ks os ρ).map fun p => (some o :: p.1, p.2)
  | some i :: ks, os, ρ => match ρ[i]? with
    | some (some o) => (bld ks os (ρ.set i none)).map fun p => (some o :: p.1, p.2)
    | _ => none
  | _, _, _ => none
def unbld : List (Option Nat) → Sls → Sls → Sls
  | none :: ks, _ :: c, ρ => unbld ks c ρ
  | some i :: ks, r :: c, ρ => unbld ks c (ρ.set i r)
  | _, _, ρ => ρ
def refs : List (Option Nat) → List Nat
  | [] => []
  | none :: ks => refs ks
  | some i :: ks => i :: refs ks
theorem set_self {ρ : Sls} {i : Nat} {r : Option O} (h : ρ[i]? = some r) : ρ.set i r = ρ := by
  refine List.ext_getElem? fun j => ?_
  by_cases hj : i = j
  · subst hj; rw [List.getElem?_set_self (List.getElem?_eq_some_iff.mp h).1, h]
  · rw [List.getElem?_set_ne hj]
theorem bld_ok : ∀ {ks : List (Option Nat)} {os : List O} {ρ c ρr : Sls} {us vs : List V} {σ : L2.St}, bld ks os ρ = some (c, ρr) → Mrg ks us σ vs → us.length = os.length → SlW σ ρ →
    (us.zip os ++ slL σ ρ).Perm (slL (vs.map some) c ++ slL σ ρr) ∧ vs.length = c.length ∧ ρr.length = ρ.length ∧ SlW σ ρr ∧ (refs ks).Nodup ∧ (∀ i ∈ refs ks, ρr[i]? = some none) ∧ (∀ i, ρ[i]? = some none → ρr[i]? = some none ∧ i ∉ refs ks) ∧ vs.length = ks.length
  | [], [], ρ, c, ρr, us, vs, σ, h, m, hl, w => by
    obtain ⟨rfl, rfl⟩ := m
    simp only [bld, Option.some.injEq, Prod.mk.injEq] at h
    obtain ⟨rfl, rfl⟩ := h
    exact ⟨by simp [slL], rfl, rfl, w, by simp [refs], by simp [refs], fun i hi => ⟨hi, by simp [refs]⟩, rfl⟩
  | [], o :: os, ρ, c, ρr, us, vs, σ, h, m, hl, w => by simp [bld] at h
  | none :: ks, [], ρ, c, ρr, us, vs, σ, h, m, hl, w => by simp [bld] at h
  | none :: ks, o :: os, ρ, c, ρr, us, vs, σ, h, m, hl, w => by
    obtain ⟨u, us', vs', rfl, rfl, m⟩ := m
    rw [bld] at h
    obtain ⟨⟨c1, ρ1⟩, h1, h2⟩ := Option.map_eq_some_iff.mp h
    simp only [Prod.mk.injEq] at h2
    obtain ⟨rfl, rfl⟩ := h2
    obtain ⟨p, l1, l2, w2, nd, hn, hk, hkl⟩ := bld_ok h1 m (by simpa using hl) w
    exact ⟨p.cons (u, o), by simp [l1], l2, w2, by simpa [refs] using nd, by simpa [refs] using hn, by simpa [refs] using hk, by simp [hkl]⟩
  | some i :: ks, os, ρ, c, ρr, us, vs, σ, h, m, hl, w => by
    obtain ⟨v, vs', hv, rfl, m⟩ := m
    rw [bld] at h
    split at h
    · rename_i o ho
      obtain ⟨⟨c1, ρ1⟩, h1, h2⟩ := Option.map_eq_some_iff.mp h
      simp only [Prod.mk.injEq] at h2
      obtain ⟨rfl, rfl⟩ := h2
      obtain ⟨p, l1, l2, w2, nd, hn, hk, hkl⟩ := bld_ok h1 m hl w.hole
      have hi : i < ρ.length := (List.getElem?_eq_some_iff.mp ho).1
      obtain ⟨hk1, hk2⟩ := hk i (by simp [hi])
      refine ⟨?_, by simp [l1], by simpa using l2, w2, ?_, ?_, fun j hj => ?_, by simp [hkl]⟩
      · have q := (slL_get hv ho).append_left (us.zip os)
        exact q.trans (List.perm_middle.trans (p.cons (v, o)))
      · rw [refs]; exact List.nodup_cons.mpr ⟨hk2, nd⟩
      · rw [refs]
        intro j hj
        rcases List.mem_cons.mp hj with rfl | hj
        · exact hk1
        · exact hn j hj
      · have hne : i ≠ j := fun e => by subst e; rw [ho] at hj; cases hj
        obtain ⟨a, b⟩ := hk j (by rw [List.getElem?_set_ne hne]; exact hj)
        refine ⟨a, ?_⟩
        rw [refs, List.mem_cons, not_or]
        exact ⟨fun e => hne e.symm, b⟩
    · cases h
theorem unbld_ok : ∀ {ks : List (Option Nat)} {ms : List Bool} {c ρ : Sls} {us vs : List V} {σ : L2.St}, Mrg ks us σ vs → c.length = ks.length → (refs ks).Nodup → (∀ i ∈ refs ks, ρ[i]? = some none) → SlW σ ρ → SlW (vs.map some) c →
    ∃ rest, (slL (vs.map some) c ++ slL σ ρ).Perm (slL σ (unbld ks c ρ) ++ rest) ∧ SlW σ (unbld ks c ρ) ∧ (unbld ks c ρ).length = ρ.length
  | [], ms, c, ρ, us, vs, σ, m, hl, nd, hn, w, wc => by
    obtain ⟨rfl, rfl⟩ := m
    have : c = [] := List.eq_nil_of_length_eq_zero (by simpa using hl)
    subst this
    exact ⟨[], by simp [slL, unbld], w, rfl⟩
  | none :: ks, ms, [], ρ, us, vs, σ, m, hl, nd, hn, w, wc => by simp at hl
  | some _ :: ks, ms, [], ρ, us, vs, σ, m, hl, nd, hn, w, wc => by simp at hl
  | none :: ks, ms, r :: c, ρ, us, vs, σ, m, hl, nd, hn, w, wc => by
    obtain ⟨u, us', vs', rfl, rfl, m⟩ := m
    have wc' : SlW (vs'.map some) c := fun i o e => by simpa using wc (i + 1) o (by simpa using e)
    obtain ⟨rest, p, w2, l2⟩ := unbld_ok (ms := ms) m (by simpa using hl) (by simpa [refs] using nd) (by simpa [refs] using hn) w wc'
    rw [unbld, List.map_cons]
    cases r with
    | none => rw [slL_none]; exact ⟨rest, p, w2, l2⟩
    | some o => exact ⟨(u, o) :: rest, (p.cons (u, o)).trans List.perm_middle.symm, w2, l2⟩
  | some i :: ks, ms, r :: c, ρ, us, vs, σ, m, hl, nd, hn, w, wc => by
    obtain ⟨v, vs', hv, rfl, m⟩ := m
    have wc' : SlW (vs'.map some) c := fun i o e => by simpa using wc (i + 1) o (by simpa using e)
    rw [refs] at nd hn
    obtain ⟨nd1, nd2⟩ := List.nodup_cons.mp nd
    have hi := hn i (by simp)
    have hil : i < ρ.length := (List.getElem?_eq_some_iff.mp hi).1
    have hn' : ∀ j ∈ refs ks, (ρ.set i r)[j]? = some none := fun j hj => by
      rw [List.getElem?_set_ne (fun e => nd1 (by rw [e]; exact hj))]
      exact hn j (by simp [hj])
    rw [unbld, List.map_cons]
    cases r with
    | none =>
      rw [set_self hi] at hn' ⊢
      obtain ⟨rest, p, w2, l2⟩ := unbld_ok (ms := ms) m (by simpa using hl) nd2 hn' w wc'
      rw [slL_none]
      exact ⟨rest, p, w2, l2⟩
    | some o =>
      obtain ⟨rest, p, w2, l2⟩ := unbld_ok (ms := ms) m (by simpa using hl) nd2 hn' (w.put hv) wc'
      refine ⟨rest, ?_, w2, by simpa using l2⟩
      have q := slL_get (σ := σ) (ρ := ρ.set i (some o)) (o := o) hv (by simp [hil])
      rw [List.set_set, set_self hi] at q
      exact (List.perm_middle.symm.trans (q.symm.append_left _)).trans p
def callF (ks : List (Option Nat)) (fs : M (List O)) (ms : List Bool) (sem : M O) : M O := fs.bind fun os => fun ρ => match bld ks os ρ with
  | none => none
  | some (c, ρr) => match sem c with
    | none => none
    | some (r, c') => some (r, unbld ks (mask ms c') ρr)
section
variable {g : Gv} {W : WX} {σ : L2.St}
/-- what a call's run asks is what the callee's promise asks -/
theorem call_run {ks : List (Option Nat)} {ms : List Bool} {sem : M O} {os : List O} {H F Gx : Hp} {ρ : Sls} {us vs : List V} {Q : VK} (hms : ms.length = ks.length) (hl : us.length = os.length) (m : Mrg ks us σ vs) (st : StG g H F Gx σ ρ (us.zip os))
    (r : Rn g W (fun ρ => match bld ks os ρ with
      | none => none
      | some (c, ρr) => match sem c with
        | none => none
        | some (r, c') => some (r, unbld ks (mask ms c') ρr)) σ H F Gx ρ fun o H' F' ρ' => ∀ v, StG g H' F' Gx σ ρ' [(v, o)] → Q v H') :
    spOf g ms sem vs H Q (WE W σ) := by
  unfold Rn at r
  cases hb : bld ks os ρ with
  | none => simp [hb] at r
  | some p =>
    obtain ⟨c, ρr⟩ := p
    simp only [hb] at r
    obtain ⟨pm, l1, l2, w2, nd, hn, _, hkl⟩ := bld_ok hb m hl st.wf
    have gd : Good g H F Gx (slL (vs.map some) c ++ slL σ ρr) := st.gd.perm pm
    obtain ⟨Gx', gc, back⟩ := gd.aside
    have wc : SlW (vs.map some) c := fun i o e => by
      have hi : i < c.length := (List.getElem?_eq_some_iff.mp e).1
      exact ⟨vs[i]'(by omega), by simp [l1, hi]⟩
    refine ⟨by rw [hkl, hms], F, Gx', c, ⟨wc, by simp [l1], gc⟩, ?_⟩
    have fin : ∀ {H' F' : Hp} {c' : Sls} {L : List (V × O)}, Le F F' → StG g H' F' Gx' (vs.map some) (mask ms c') L → StG g H' F' Gx σ (unbld ks (mask ms c') ρr) L := fun {H' F' c' L} le st' => by
      have g2 := back H' F' _ le st'.gd
      have hcl : (mask ms c').length = ks.length := by rw [← st'.len]; simp [hkl]
      obtain ⟨rest, p2, w3, l3⟩ := unbld_ok (ms := ms) m hcl nd hn w2 st'.wf
      refine ⟨w3, by rw [l3, l2]; exact st.len, ?_⟩
      rw [List.append_assoc] at g2
      have g3 : Good g H' F' Gx ((L ++ slL σ (unbld ks (mask ms c') ρr)) ++ rest) := by
        rw [List.append_assoc]; exact g2.perm (p2.append_left L)
      exact g3.dropR
    cases hs : sem c with
    | none => simp [hs] at r
    | some q =>
      obtain ⟨rz, c'⟩ := q
      simp only [hs] at r
      cases rz with
      | ok o => exact fun v H' F' le st' => r H' F' le v (fin le st')
      | ex e => exact fun d H' F' le st' x => r H' F' d le (fin le st') x
end
section
variable {W : WX} {X : Cx} {ca : Ca} {k : Nat} {f C : Addr} {fd : FuncData} {ps : List Str} {ms : List Bool} {sem : M O} {x m : Str} {p pos apos : Pos} {e o : Expr} {es : List Expr} {ks : List (Option Nat)} {fs : M (List O)}
theorem e_call (Fo : FnOk X.prog X.w X.K X.mg X.base (L2.CX X.prog X.w) k f fd ps (spOf (gv X ca) ms sem)) (hr : Room k X.A) (hg : Gl X x) (hm : X.mg x = some (.ref f)) (hk : PySem.W.keepIn X.K (.ref f) = true) (hb : Binds X.K fd ps []) (tk : Takes X W)
    (hms : ms.length = ks.length) (ha : PA X (e :: es) (TLm (gv X ca) W ks fs)) (hdb : (x == ("__debug__" : Str)) = false := by decide) (he : starEach (e :: es) X.env = (false, eval e X.env) :: starEach es X.env := by rfl) (hpl : (backTo pos (starEach es X.env)).any (·.1) = false := by rfl) :
    PE X (.Call (.Name x p) (e :: es) [] pos) (T (gv X ca) W (callF ks fs ms sem)) :=
  PE.imp (pe_callSD (E := WE W) (dvs := []) (ds := []) Fo hr hg hm hk hb .nil (fun σ => passAt tk σ) ha hdb he hpl) fun σ H Q ⟨F, Gx, ρ, st, r⟩ =>
    ⟨F, Gx, ρ, st, r.bind.mono fun os H1 F1 ρ1 le r1 us vs hl m st1 => by
      show spOf (gv X ca) ms sem (vs ++ []) H1 Q (WE W σ)
      rw [List.append_nil]
      exact call_run hms hl m st1 r1⟩
/-! methods -/
def tMethSD (C : Addr) (m : Str) (sp : Sp) (E : L2.St → XK) (ta : TE) (t : TA) : TE := fun σ H Q => ta σ H fun x H1 => ∃ a dx fs, x = .ref a ∧ H1 a = some (.ins C dx fs) ∧ fs.lookup m = none ∧ t σ H1 fun vs H2 => sp (x :: vs) H2 Q (E σ)
theorem pe_methSD {CX : CXT} {sp : Sp} {E : L2.St → XK} {ta : TE} {t : TA} {pl : Sem Bool} (he : PE X o ta) (c : Cls X.K C) (hm : Meth X.K C m f) (F : FnOk X.prog X.w X.K X.mg X.base CX k f fd ps sp) (hr : Room k X.A) (hb : Binds X.K fd ps []) (hx : ∀ σ, PassesAt CX X σ (E σ)) (ha : PA X (e :: es) t)
    (hst : starEach (e :: es) X.env = (false, eval e X.env) :: starEach es X.env := by rfl) (hpl : (backTo pos (starEach es X.env)).any (·.1) = false := by rfl)
    (ht : eval (.Call (.Attribute o m apos) (e :: es) [] pos) X.env = (do
      let ov ← eval o X.env
      standAt apos.atName
      let (f, first) ← holding [ov] (getMethod ov m pl)
      callWith pos f first (backTo pos (starEach (e :: es) X.env)) (backToKw pos (keywordEach [] X.env))) := by rfl) :
    PE X (.Call (.Attribute o m apos) (e :: es) [] pos) (tMethSD C m sp E ta t) := by
  refine ⟨fun pins s σ H Q I h => ?_⟩
  refine PySem.W.methodCall_KW (pl := pl) (thn (he.run pins s σ H _ I h) fun u s1 ⟨x, H1, I1, rx, a, dx, fs, ex, ea, l, q⟩ => ?_) ht
  subst ex
  obtain rfl : u = Value.ref a := rx
  refine getmeth_ok I1 ea c hm l ?_
  refine PySem.W.callWith_K (first := [.ref a]) (h₀ := X.base) I.ok.mod.kin hm.kp (thn (ha.run pos pins s1 σ H1 _ I1 q) fun us s2 ⟨vs, H2, I2, r, q2⟩ => ⟨I2.kIn, ?_⟩) hst hpl
  exact run_fnSD (us := .ref a :: us) (vs := .ref a :: vs) (dvs := []) F hr hb .nil (hx σ) I2 (.cons rfl r) (by rw [List.append_nil]; exact q2)
theorem pe_meth0SD {CX : CXT} {sp : Sp} {E : L2.St → XK} {ta : TE} {pl : Sem Bool} (he : PE X o ta) (c : Cls X.K C) (hm : Meth X.K C m f) (F : FnOk X.prog X.w X.K X.mg X.base CX k f fd ps sp) (hr : Room k X.A) (hb : Binds X.K fd ps []) (hx : ∀ σ, PassesAt CX X σ (E σ))
    (ht : eval (.Call (.Attribute o m apos) [] [] pos) X.env = (do
      let ov ← eval o X.env
      standAt apos.atName
      let (f, first) ← holding [ov] (getMethod ov m pl)
      callWith pos f first (backTo pos (starEach [] X.env)) (backToKw pos (keywordEach [] X.env))) := by rfl) :
    PE X (.Call (.Attribute o m apos) [] [] pos) (tMethSD C m sp E ta tNil) := by
  refine ⟨fun pins s σ H Q I h => ?_⟩
  refine PySem.W.methodCall_KW (pl := pl) (thn (he.run pins s σ H _ I h) fun u s1 ⟨x, H1, I1, rx, a, dx, fs, ex, ea, l, q⟩ => ?_) ht
  subst ex
  obtain rfl : u = Value.ref a := rx
  refine getmeth_ok I1 ea c hm l ?_
  exact PySem.W.callWith_K0 (first := [.ref a]) I1.kIn hm.kp (run_fnSD (us := [.ref a]) (vs := [.ref a]) (dvs := []) F hr hb .nil (hx σ) I1 (.cons rfl .nil) q)
end
end PF

set_option Elab.async false
set_option linter.all false
set_option maxRecDepth 100000
set_option maxHeartbeats 2000000
namespace PF
open PySem PySem.Spec PyProof.Rows L2

/-! ### what is walked -/
structure ItG (g : Gv) (J : It) (C : Hp → Hp → Prop) (ds : List D) : Prop where
  go : ∀ i H F, i < ds.length → C H F → J.go i H
  stop : ∀ H F, C H F → J.stop ds.length H
  yld : ∀ (i : Nat) (d : D) H F Gx σ ρ L x H', ds[i]? = some d → C H F → StG g H F Gx σ ρ L → J.yld i H x H' → ∃ F', Le F F' ∧ StG g H' F' Gx σ ρ L ∧ RepV g F' d x
/-- the source is frozen -/
def Fz (F0 : Hp) (H F : Hp) : Prop := Le F0 F ∧ Le F H
/-- the source is a list that stands at a -/
def At (g : Gv) (a : Addr) (ds : List D) (H F : Hp) : Prop := ∃ vs, H a = some (.lst vs) ∧ RepVs g F ds vs
theorem at_fz {g : Gv} {F0 : Hp} {a : Addr} {vs : List V} {ds : List D} (h : F0 a = some (.lst vs)) (r : RepVs g F0 ds vs) : ∀ H F, Fz F0 H F → At g a ds H F := fun H F z => ⟨vs, z.2 _ _ (z.1 _ _ h), RepVs.mono g z.1 _ _ r⟩
def enumD (ds : List D) : List D := ds.zipIdx.map fun p => .tup [.int p.2, p.1]
def signsD (x : Str) : List D := x.cps.toList.map fun c => .str ⟨#[c]⟩
section
variable {g : Gv} {C : Hp → Hp → Prop} {F0 : Hp} {ds es : List D} {vs us : List V} {a b : Addr}
theorem ItG.imp {J : It} {C C' : Hp → Hp → Prop} (it : ItG g J C ds) (h : ∀ H F, C' H F → C H F) : ItG g J C' ds := ⟨fun i H F hi c => it.go i H F hi (h _ _ c), fun H F c => it.stop H F (h _ _ c), fun i d H F Gx σ ρ L x H' hd c => it.yld i d H F Gx σ ρ L x H' hd (h _ _ c)⟩
theorem itg_list : ItG g (Itl g.K a) (At g a ds) ds where
  go := fun i H F hi ⟨vs, hb, r⟩ => ⟨vs, vs[i]'(by rw [r.length]; exact hi), SqL.of hb, by simp [r.length, hi]⟩
  stop := fun H F ⟨vs, hb, r⟩ => ⟨vs, SqL.of hb, by rw [r.length]; exact Nat.le_refl _⟩
  yld := fun i d H F Gx σ ρ L x H' hd ⟨vs, hb, r⟩ st y => by
    obtain ⟨rfl, y⟩ := y
    obtain ⟨v, h1, h2⟩ := r.get hd
    have e := y vs (SqL.of hb)
    rw [h1] at e; cases e
    exact ⟨F, Le.refl F, st, h2⟩
theorem itg_tup (hb : SqT g.K F0 a vs) (r : RepVs g F0 ds vs) : ItG g (Itt g.K a) (Fz F0) ds where
  go := fun i H F hi z => ⟨vs, vs[i]'(by rw [r.length]; exact hi), SqT.mono z.2 (SqT.mono z.1 hb), by simp [r.length, hi]⟩
  stop := fun H F z => ⟨vs, SqT.mono z.2 (SqT.mono z.1 hb), by rw [r.length]; exact Nat.le_refl _⟩
  yld := fun i d H F Gx σ ρ L x H' hd z st y => by
    obtain ⟨rfl, y⟩ := y
    obtain ⟨v, h1, h2⟩ := r.get hd
    have e := y vs (SqT.mono z.2 (SqT.mono z.1 hb))
    rw [h1] at e; cases e
    exact ⟨F, Le.refl F, st, RepV.mono g z.1 _ _ h2⟩
def rangeD (lo : Int) (n : Nat) : List D := (List.range n).map fun (i : Nat) => .int (lo + (i : Int))
theorem itg_range (lo : Int) (n : Nat) : ItG g (Itr lo n) C (rangeD lo n) where
  go := fun i H F hi le => by
    have hi : i < n := by simpa [rangeD] using hi
    exact hi
  stop := fun H F le => by
    show n ≤ (rangeD lo n).length
    simp [rangeD]
  yld := fun i d H F Gx σ ρ L x H' hd le st y => by
    obtain ⟨rfl, rfl⟩ := y
    have hd' : d = .int (lo + (i : Int)) := by
      unfold rangeD at hd
      rw [List.getElem?_map] at hd
      cases q : (List.range n)[i]? with
      | none => rw [q] at hd; cases hd
      | some j =>
        rw [q] at hd
        cases hd
        obtain ⟨h1, h2⟩ := List.getElem?_eq_some_iff.mp q
        simp at h2
        rw [h2]
    subst hd'
    exact ⟨F, Le.refl F, st, repI⟩
theorem itg_rangeC (lo c : Int) (n : Nat) : ItG g (Itc lo c n) C ((List.range n).map fun (i : Nat) => .int (lo + (i : Int) * c)) where
  go := fun i H F hi le => by
    have hi : i < n := by simpa using hi
    exact hi
  stop := fun H F le => by
    show n ≤ _
    simp
  yld := fun i d H F Gx σ ρ L x H' hd le st y => by
    obtain ⟨rfl, rfl⟩ := y
    have hd' : d = .int (lo + (i : Int) * c) := by
      rw [List.getElem?_map] at hd
      cases q : (List.range n)[i]? with
      | none => rw [q] at hd; cases hd
      | some j =>
        rw [q] at hd
        cases hd
        obtain ⟨h1, h2⟩ := List.getElem?_eq_some_iff.mp q
        simp at h2
        rw [h2]
    subst hd'
    exact ⟨F, Le.refl F, st, repI⟩
theorem itg_str (x : Str) : ItG g (Its x) C (signsD x) where
  go := fun i H F hi le => by simpa [signsD, Its] using hi
  stop := fun H F le => by simp [signsD, Its]
  yld := fun i d H F Gx σ ρ L v H' hd le st y => by
    obtain ⟨rfl, c, hc, rfl⟩ := y
    have hd' : d = .str ⟨#[c]⟩ := by
      unfold signsD at hd
      rw [List.getElem?_map, Array.getElem?_toList, hc] at hd
      cases hd; rfl
    subst hd'
    exact ⟨F, Le.refl F, st, repS⟩
theorem enum_at {i : Nat} {d : D} (h : (enumD ds)[i]? = some d) : ∃ x, ds[i]? = some x ∧ d = .tup [.int (i : Nat), x] := by
  unfold enumD at h
  rw [List.getElem?_map, List.getElem?_zipIdx] at h
  cases q : ds[i]? with
  | none => rw [q] at h; cases h
  | some x => rw [q] at h; simp at h; exact ⟨x, rfl, h.symm⟩
theorem newPair {H F Gx : Hp} {σ : L2.St} {ρ : Sls} {L : List (V × O)} {T : Addr} {x y : D} {v u : V} (st : StG g H F Gx σ ρ L) (hT : H T = none) (r1 : RepV g F x v) (r2 : RepV g F y u) : ∃ F', Le F F' ∧ StG g (upd H T (.tup [v, u])) F' Gx σ ρ L ∧ RepV g F' (.tup [x, y]) (.ref T) := by
  obtain ⟨le, st2⟩ := st.newF (u := .tup [v, u]) hT
  refine ⟨_, le, st2, ?_⟩
  rw [RepV]
  refine ⟨T, _, rfl, SqT.of upd_same, ?_⟩
  rw [RepVs]
  refine ⟨_, _, rfl, RepV.mono g le _ _ r1, ?_⟩
  rw [RepVs]
  exact ⟨_, _, rfl, RepV.mono g le _ _ r2, by rw [RepVs]⟩
theorem itg_enumL : ItG g (Ite g.K a) (At g a ds) (enumD ds) where
  go := fun i H F hi ⟨vs, hb, r⟩ => by
    have hi : i < ds.length := by simpa [enumD] using hi
    exact ⟨vs, vs[i]'(by rw [r.length]; exact hi), SqL.of hb, by simp [r.length, hi]⟩
  stop := fun H F ⟨vs, hb, r⟩ => ⟨vs, SqL.of hb, by rw [r.length]; simp [enumD]⟩
  yld := fun i d H F Gx σ ρ L x H' hd ⟨vs, hb, r⟩ st y => by
    obtain ⟨T, v, rfl, hT, rfl, y⟩ := y
    obtain ⟨x, hx, rfl⟩ := enum_at hd
    obtain ⟨u, h1, h2⟩ := r.get hx
    have e := y vs (SqL.of hb)
    rw [h1] at e; cases e
    exact newPair st hT repI h2
end

/-! ### for -/
def forL (h : O → M Unit) (fb : M Out) : List D → M Out
  | [] => M.pure .nx
  | d :: ds => (h (.val d)).bind fun _ => fb.bind fun out => match out with
    | .bk => M.pure .nx
    | .rt o => M.pure (.rt o)
    | _ => forL h fb ds
section
variable {g : Gv} {W : WX} {pn : List Nat} {h : O → M Unit} {fb : M Out}
theorem for_core {J : It} {ds : List D} {C : Hp → Hp → Prop} {F Gx H : Hp} {σ : L2.St} {ρ : Sls} {D : Ends} (it : ItG g J C ds) (hC : ∀ H' F' σ' ρ' L', Le F F' → StG g H' F' Gx σ' ρ' L' → C H' F') (st : StG g H F Gx σ ρ [])
    (r : Rs g W pn (forL h fb ds) σ F Gx ρ (EndR g Gx D)) :
    ∃ Wv : Nat → Nat → L2.St → Hp → Prop, (∃ m, Wv 0 m σ H) ∧ ∀ i m σ H, Wv i m σ H → (J.stop i H ∧ D.nx σ H) ∨ (J.go i H ∧ ∃ N : L2.St → Hp → Prop, (∀ σ' H', N σ' H' → ∃ m', m' < m ∧ Wv (i + 1) m' σ' H') ∧
      ∀ x H', J.yld i H x H' → Tg g W pn h x σ H' fun σ2 H2 => Ts g W pn fb { D with nx := N, ct := N, bk := D.nx } σ2 H2) := by
  refine ⟨fun i m σ1 H1 => m = ds.length - i ∧ i ≤ ds.length ∧ ∃ F1 ρ1, Le F F1 ∧ StG g H1 F1 Gx σ1 ρ1 [] ∧ Rs g W pn (forL h fb (ds.drop i)) σ1 F1 Gx ρ1 (EndR g Gx D), ⟨ds.length, by simp, Nat.zero_le _, F, ρ, Le.refl F, st, r⟩, ?_⟩
  rintro i m σ1 H1 ⟨rfl, hi, F1, ρ1, le1, st1, r1⟩
  have c1 := hC H1 F1 σ1 ρ1 [] le1 st1
  by_cases hlt : i < ds.length
  · refine .inr ⟨it.go i H1 F1 hlt c1, fun σ' H' => ∃ F' ρ', Le F F' ∧ StG g H' F' Gx σ' ρ' [] ∧ Rs g W pn (forL h fb (ds.drop (i + 1))) σ' F' Gx ρ' (EndR g Gx D), fun σ' H' ⟨F', ρ', a, b, c⟩ => ⟨ds.length - (i + 1), by omega, rfl, hlt, F', ρ', a, b, c⟩, fun x H' y => ?_⟩
    obtain ⟨F2, le2, st2, rx⟩ := it.yld i ds[i] H1 F1 Gx σ1 ρ1 [] x H' (by simp [hlt]) c1 st1 y
    have e : ds.drop i = ds[i] :: ds.drop (i + 1) := List.drop_eq_getElem_cons hlt
    rw [e] at r1
    have r2 : Rs g W pn ((h (.val ds[i])).bind fun _ => fb.bind fun out => match out with
      | .bk => M.pure .nx
      | .rt o => M.pure (.rt o)
      | _ => forL h fb (ds.drop (i + 1))) σ1 F1 Gx ρ1 (EndR g Gx D) := r1
    have r3 : Rs g W pn ((h (.val ds[i])).bind fun _ => fb.bind fun out => match out with
      | .bk => M.pure .nx
      | .rt o => M.pure (.rt o)
      | _ => forL h fb (ds.drop (i + 1))) σ1 F2 Gx ρ1 (EndR g Gx D) := by
      unfold Rs at r2 ⊢
      split <;> rename_i q <;> rw [q] at r2
      · exact r2
      · exact fun H' F' σ' l => r2 H' F' σ' (le2.trans l)
      · exact fun H' F' σ' d l => r2 H' F' σ' d (le2.trans l)
    refine ⟨F2, Gx, ρ1, .val ds[i], st2.ofVal rx, r3.bind.mono fun _ H3 F3 σ3 ρ3 le3 p3 r4 st3 => ⟨F3, Gx, ρ3, st3, r4.bind.mono fun out H4 F4 σ4 ρ4 le4 p4 r5 => ?_⟩⟩
    have leA : Le F F4 := (le1.trans le2).trans (le3.trans le4)
    cases out with
    | nx => exact fun st4 => ⟨F4, ρ4, leA, st4, r5⟩
    | ct => exact fun st4 => ⟨F4, ρ4, leA, st4, r5⟩
    | bk => exact fun st4 => r5.pure H4 F4 σ4 (Le.refl _) (Pin.refl _) st4
    | rt o => exact fun v st4 => r5.pure H4 F4 σ4 (Le.refl _) (Pin.refl _) v st4
  · have e : i = ds.length := by omega
    subst e
    rw [List.drop_length] at r1
    exact .inl ⟨it.stop H1 F1 c1, r1.pure H1 F1 σ1 (Le.refl _) (Pin.refl _) st1⟩
end
/-- what is walked, by its items: the source frozen -/
def Ti (g : Gv) (W : WX) (fi : M (List D)) : L2.TI := fun σ H R => ∃ F Gx ρ, StG g H F Gx σ ρ [] ∧ Rn g W fi σ H F Gx ρ fun ds H' F' ρ' => ∀ J F2, Le F' F2 → StG g H' F2 Gx σ ρ' [] → ItG g J (Fz F2) ds → R J H'
theorem PI.imp {X : Cx} {tg iter : Expr} {t t' : L2.TI} (h : PI X tg iter t) (i : ∀ σ H Q, t' σ H Q → t σ H Q) : PI X tg iter t' := ⟨fun pins s σ H Q I q => h.run pins s σ H Q I (i σ H Q q)⟩
section
variable {g : Gv} {W : WX} {pn : List Nat} {h : O → M Unit} {fb : M Out} {X : Cx} {ca : Ca} {tg iter : Expr} {body : List Stmt} {pos : Pos} {fi : M (List D)}
theorem s_for (hp : PassesOwn (model X.prog X.w) X.A X.env X.xe) (hc : X.calm = true) (hi : PI X tg iter (Ti g W fi)) (hg : PG X tg (Tg g W pn h)) (hb : PSs X body (Ts g W pn fb))
    (hs : ∀ x, foldedSetIterable iter X.env x = pure x := by intro _; rfl) : PS X (.For tg iter body [] pos) (Ts g W pn (fi.bind fun ds => forL h fb ds)) :=
  PS.imp (ps_for hp hc hi hg hb hs) fun D σ H ⟨F, Gx, ρ, st, r⟩ => ⟨F, Gx, ρ, st, r.expr.mono fun ds H' F' ρ' le r1 J F2 le2 st' it => by
    have r2 : Rs g W pn (forL h fb ds) σ F2 Gx ρ' (EndR g Gx D) := by
      unfold Rs at r1 ⊢
      split <;> rename_i q <;> rw [q] at r1
      · exact r1
      · exact fun H' F' σ' l => r1 H' F' σ' (le2.trans l)
      · exact fun H' F' σ' d l => r1 H' F' σ' d (le2.trans l)
    exact for_core it (fun H' F' σ' ρ' L' l s => ⟨l, s.le⟩) st' r2⟩
end

/-! ### sources -/
def O.its : O → Option (List D)
  | .val (.tup ds) => some ds
  | .val (.str x) => some (signsD x)
  | o => o.dsL
/-- a list, a tuple, a text, by what comes -/
def iSeq (K : PySem.W.Frag) (te : TE) : L2.TI := fun σ H R => te σ H fun v H1 => (∃ a, v = .ref a ∧ (∃ xs, SqL K H1 a xs) ∧ R (Itl K a) H1) ∨ (∃ a, v = .ref a ∧ (∃ xs, SqT K H1 a xs) ∧ R (Itt K a) H1) ∨ ∃ x, v = .str x ∧ R (Its x) H1
section
variable {W : WX} {X : Cx} {ca : Ca} {tg e : Expr} {te : TE}
theorem pi_seq (he : PE X e te) : PI X tg e (iSeq X.K te) := by
  refine ⟨fun pins s σ H R I h => ?_⟩
  refine thn (he.run pins s σ H _ I h) fun v s1 ⟨x, H1, I1, r1, q1⟩ => ?_
  rcases q1 with ⟨a, rfl, ⟨xs, hq⟩, q⟩ | ⟨a, rfl, ⟨xs, hq⟩, q⟩ | ⟨z, rfl, q⟩
  · cases r1
    obtain ⟨its, _, p, _⟩ := I1.list hq
    exact wpAny_pyIter_list p.isList (pi_one (tk := s1.toks) I1 _ (turn_list a _) ⟨_, Heap.get?_push_size _ rfl, rfl, rfl⟩ q)
  · cases r1
    obtain ⟨its, _, p, _⟩ := I1.tuple hq
    exact wpAny_pyIter_tuple p (pi_one (tk := s1.toks) I1 _ (turn_tuple a _) ⟨_, Heap.get?_push_size _ rfl, rfl, rfl⟩ q)
  · obtain ⟨t, rfl⟩ := r1
    by_cases ha : z.cps.all (· < 128) = true
    · exact wpAny_pyIter_ascii ha (pi_one (tk := s1.toks) I1 _ (turn_str _ z t _ (.inl rfl)) ⟨_, Heap.get?_push_size _ rfl, rfl, rfl⟩ q)
    · exact wpAny_pyIter_wide (by simpa using ha) (pi_one (tk := s1.toks) I1 _ (turn_str _ z t _ (.inr rfl)) ⟨_, Heap.get?_push_size _ rfl, rfl, rfl⟩ q)
/-- the items of what is handed on -/
theorem its_ok {g : Gv} {H F Gx : Hp} {σ : L2.St} {ρ : Sls} {o : O} {v : V} {ds : List D} (st : StG g H F Gx σ ρ [(v, o)]) (e : o.its = some ds) : ∃ F2, Le F F2 ∧ StG g H F2 Gx σ ρ [] ∧
    ((∃ a vs, v = .ref a ∧ F2 a = some (.lst vs) ∧ RepVs g F2 ds vs) ∨ (∃ a vs, v = .ref a ∧ SqT g.K F2 a vs ∧ RepVs g F2 ds vs) ∨ ∃ x, v = .str x ∧ ds = signsD x) := by
  cases o with
  | val d =>
    have rv := st.gd.val (B := slL σ ρ)
    have st2 := st.drop1
    cases d with
    | tup es =>
      rw [O.its] at e; cases e
      rw [RepV] at rv
      obtain ⟨a, vs, rfl, q, r⟩ := rv
      exact ⟨F, Le.refl F, st2, .inr (.inl ⟨a, vs, rfl, q, r⟩)⟩
    | str x =>
      rw [O.its] at e; cases e
      rw [RepV] at rv
      exact ⟨F, Le.refl F, st2, .inr (.inr ⟨x, rv, rfl⟩)⟩
    | lst es =>
      simp [O.its, O.dsL] at e; cases e
      rw [RepV] at rv
      obtain ⟨a, vs, rfl, q, r⟩ := rv
      exact ⟨F, Le.refl F, st2, .inl ⟨a, vs, rfl, q, r⟩⟩
    | _ => simp [O.its, O.dsL] at e
  | lst os =>
    obtain ⟨F2, le, st2⟩ := st.freeze
    have rv := st2.gd.val (B := slL σ ρ)
    have hd : fzs os = ds := by
      simp [O.its, O.dsL] at e
      clear st st2 rv
      induction os generalizing ds with
      | nil => rw [valsO] at e; cases e; rfl
      | cons o os ih =>
        cases o with
        | val d =>
          rw [valsO] at e
          obtain ⟨es, e1, rfl⟩ := Option.map_eq_some_iff.mp e
          rw [fzs, fz, ih e1]
        | _ => simp [valsO] at e
    rw [fz, RepV, hd] at rv
    obtain ⟨a, vs, rfl, q, r⟩ := rv
    exact ⟨F2, le, st2.drop1, .inl ⟨a, vs, rfl, q, r⟩⟩
  | _ => simp [O.its, O.dsL] at e
def seqI (f : M O) : M (List D) := f.bind fun o => M.of o.its
theorem i_seq {f : M O} (he : PE X e (T (gv X ca) W f)) : PI X tg e (Ti (gv X ca) W (seqI f)) :=
  PI.imp (pi_seq he) fun σ H R ⟨F, Gx, ρ, st, r⟩ => ⟨F, Gx, ρ, st, r.bind.mono fun o H1 F1 ρ1 le r1 v st1 => by
    obtain ⟨ds, e, q⟩ := r1.of
    obtain ⟨F2, le2, st2, h⟩ := its_ok st1 e
    rcases h with ⟨a, vs, rfl, hq, rv⟩ | ⟨a, vs, rfl, hq, rv⟩ | ⟨x, rfl, rfl⟩
    · exact .inl ⟨a, rfl, ⟨vs, SqL.of (st2.le _ _ hq)⟩, q H1 F1 (Le.refl _) _ F2 le2 st2 (itg_list.imp (at_fz hq rv))⟩
    · exact .inr (.inl ⟨a, rfl, ⟨vs, SqT.mono st2.le hq⟩, q H1 F1 (Le.refl _) _ F2 le2 st2 (itg_tup hq rv)⟩)
    · exact .inr (.inr ⟨x, rfl, q H1 F1 (Le.refl _) _ F2 le2 st2 (itg_str x)⟩)⟩
def rngI1 (fs : M (List O)) : M (List D) := fs.bind fun os => match os with
  | [.val (.int j)] => if -(2 ^ 62) ≤ j ∧ j < 2 ^ 62 then M.pure (rangeD 0 j.toNat) else M.stuck
  | _ => M.stuck
def rngI2 (fs : M (List O)) : M (List D) := fs.bind fun os => match os with
  | [.val (.int i), .val (.int j)] => if -(2 ^ 62) ≤ i ∧ i < 2 ^ 62 ∧ -(2 ^ 62) ≤ j ∧ j < 2 ^ 62 then M.pure (rangeD i (j - i).toNat) else M.stuck
  | _ => M.stuck
theorem i_rng1 {a : Expr} {fs : M (List O)} {p pos : Pos} (hg : Gl X "range") (hm : X.mg "range" = none) (ha : PA X [a] (TLR (gv X ca) W fs)) (hs : starEach [a] X.env = [(false, eval a X.env)] := by rfl) : PI X tg (.Call (.Name "range" p) [a] [] pos) (Ti (gv X ca) W (rngI1 fs)) :=
  PI.imp (pi_range1 hg hm ha hs) fun σ H R ⟨F, Gx, ρ, st, r⟩ => ⟨F, Gx, ρ, st, r.bind.mono fun os H1 F1 ρ1 le r1 vs st1 vw => by
    split at r1
    · rename_i j
      split at r1
      · rename_i hj
        obtain ⟨v, w, S, rfl, rv, rfl⟩ := vw
        cases rv.intV
        exact ⟨j, rfl, hj.1, hj.2, r1.pure H1 F1 (Le.refl _) _ F1 (Le.refl _) st1 (itg_range 0 j.toNat)⟩
      · obtain ⟨_, _, e⟩ := r1.run; cases e
    · obtain ⟨_, _, e⟩ := r1.run; cases e⟩
theorem i_rng2 {a b : Expr} {fs : M (List O)} {p pos : Pos} (hg : Gl X "range") (hm : X.mg "range" = none) (ha : PA X [a, b] (TLR (gv X ca) W fs)) (hs : starEach [a, b] X.env = [(false, eval a X.env), (false, eval b X.env)] := by rfl) (hs2 : starEach [b] X.env = [(false, eval b X.env)] := by rfl) : PI X tg (.Call (.Name "range" p) [a, b] [] pos) (Ti (gv X ca) W (rngI2 fs)) :=
  PI.imp (pi_range2 hg hm ha hs hs2) fun σ H R ⟨F, Gx, ρ, st, r⟩ => ⟨F, Gx, ρ, st, r.bind.mono fun os H1 F1 ρ1 le r1 vs st1 vw => by
    split at r1
    · rename_i i j
      split at r1
      · rename_i hj
        obtain ⟨v, w, S, rfl, rv, v2, w2, S2, rfl, rv2, rfl⟩ := vw
        cases rv.intV; cases rv2.intV
        exact ⟨i, j, rfl, hj, r1.pure H1 F1 (Le.refl _) _ F1 (Le.refl _) st1 (itg_range i (j - i).toNat)⟩
      · obtain ⟨_, _, e⟩ := r1.run; cases e
    · obtain ⟨_, _, e⟩ := r1.run; cases e⟩
end
end PF

set_option Elab.async false
set_option linter.all false
set_option maxRecDepth 100000
set_option maxHeartbeats 2000000
namespace PF
open PySem PySem.Spec PyProof.Rows L2

/-! ### runs that raise nothing -/
def noX {α : Type} (f : M α) : M α := fun ρ => match f ρ with
  | some (.ok a, ρ') => some (.ok a, ρ')
  | _ => none
def Okk {α : Type} (f : M α) (F : Hp) (ρ : Sls) (R : α → Hp → Hp → Sls → Prop) : Prop := match f ρ with
  | some (.ok a, ρ') => ∀ H' F', Le F F' → R a H' F' ρ'
  | _ => False
section
variable {g : Gv} {W : WX} {pn : List Nat} {α β : Type}
theorem Okk.bind {f : M α} {k : α → M β} {F : Hp} {ρ : Sls} {R : β → Hp → Hp → Sls → Prop} (h : Okk (f.bind k) F ρ R) : Okk f F ρ fun a H' F' ρ' => Okk (k a) F' ρ' R := by
  unfold Okk M.bind at *
  cases q : f ρ with
  | none => rw [q] at h; exact h
  | some p =>
    obtain ⟨r, ρ'⟩ := p
    rw [q] at h
    cases r with
    | ex e => exact h
    | ok a =>
      intro H' F' le
      show match k a ρ' with | some (.ok a, ρ') => _ | _ => False
      have h : match k a ρ' with | some (.ok a, ρ') => ∀ H' F', Le F F' → R a H' F' ρ' | _ => False := h
      split <;> rename_i q2
      · rw [q2] at h; exact fun H2 F2 le2 => h H2 F2 (le.trans le2)
      · split at h
        · rename_i a' ρ2 e; exact q2 a' ρ2 e
        · exact h
theorem Okk.mono {f : M α} {F : Hp} {ρ : Sls} {R R' : α → Hp → Hp → Sls → Prop} (h : Okk f F ρ R) (i : ∀ a H' F' ρ', Le F F' → R a H' F' ρ' → R' a H' F' ρ') : Okk f F ρ R' := by
  unfold Okk at *
  split <;> rename_i q
  · rw [q] at h; exact fun H' F' le => i _ _ _ _ le (h H' F' le)
  · split at h
    · rename_i a' ρ2 e; exact q a' ρ2 e
    · exact h
theorem Okk.run {f : M α} {F : Hp} {ρ : Sls} {R : α → Hp → Hp → Sls → Prop} (h : Okk f F ρ R) : ∃ a ρ', f ρ = some (.ok a, ρ') := by
  unfold Okk at h
  split at h
  · rename_i a ρ' q; exact ⟨a, ρ', q⟩
  · exact h.elim
theorem Okk.ok {f : M α} {F : Hp} {ρ ρ' : Sls} {R : α → Hp → Hp → Sls → Prop} {a : α} (h : Okk f F ρ R) (e : f ρ = some (.ok a, ρ')) : ∀ H' F', Le F F' → R a H' F' ρ' := by
  unfold Okk at h; rw [e] at h; exact h
theorem Okk.pure {F : Hp} {ρ : Sls} {R : α → Hp → Hp → Sls → Prop} {a : α} (h : Okk (M.pure a) F ρ R) : ∀ H' F', Le F F' → R a H' F' ρ := h
theorem Okk.le {f : M α} {F F1 : Hp} {ρ : Sls} {R : α → Hp → Hp → Sls → Prop} (h : Okk f F ρ R) (le : Le F F1) : Okk f F1 ρ R := by
  unfold Okk at *
  split <;> rename_i q
  · rw [q] at h; exact fun H' F' l => h H' F' (le.trans l)
  · split at h
    · rename_i a' ρ2 e; exact q a' ρ2 e
    · exact h
theorem Okk.rn {f : M α} {σ : L2.St} {H F Gx : Hp} {ρ : Sls} {R : α → Hp → Hp → Sls → Prop} (h : Okk f F ρ R) : Rn g W f σ H F Gx ρ R := by
  obtain ⟨a, ρ', e⟩ := h.run
  unfold Rn
  rw [e]
  exact h.ok e
theorem Okk.rs {f : M α} {σ : L2.St} {F Gx : Hp} {ρ : Sls} {R : α → Hp → Hp → Sls → Prop} (h : Okk f F ρ R) : Rs g W pn f σ F Gx ρ fun a H' F' σ' ρ' => R a H' F' ρ' := by
  obtain ⟨a, ρ', e⟩ := h.run
  unfold Rs
  rw [e]
  exact fun H' F' σ' le _ => h.ok e H' F' le
theorem Rn.okk {f : M α} {σ : L2.St} {H F Gx : Hp} {ρ : Sls} {R : α → Hp → Hp → Sls → Prop} (h : Rn g W (noX f) σ H F Gx ρ R) : Okk f F ρ R := by
  obtain ⟨r, ρ', e⟩ := h.run
  unfold noX at e
  split at e
  · rename_i a ρ2 q
    unfold Okk
    rw [q]
    exact h.ok (by unfold noX; rw [q])
  · cases e
end

/-! ### more on slots -/
section
variable {g : Gv} {H F Gx : Hp} {σ : L2.St} {ρ : Sls} {L : List (V × O)}
theorem StG.asideS (h : StG g H F Gx σ ρ L) : ∃ Gx', StG g H F Gx' σ ρ [] ∧ ∀ H' F' σ' ρ' L', Le F F' → StG g H' F' Gx' σ' ρ' L' → StG g H' F' Gx σ' ρ' (L ++ L') := by
  obtain ⟨Gx', q, back⟩ := Good.aside (A := slL σ ρ) (B := L) (h.gd.perm List.perm_append_comm)
  refine ⟨Gx', ⟨h.wf, h.len, q⟩, fun H' F' σ' ρ' L' le q' => ⟨q'.wf, q'.len, ?_⟩⟩
  have z := back H' F' _ le q'.gd
  refine z.perm ?_
  rw [List.append_assoc, List.append_assoc]
  exact (List.perm_append_comm.append_left L').trans (by rw [← List.append_assoc, ← List.append_assoc]; exact List.perm_append_comm.append_right _)
/-- what laid aside says of the heap -/
theorem StG.asideH (h : StG g H F Gx σ ρ L) : ∃ Gx', StG g H F Gx' σ ρ [] ∧ (∀ H' F' σ' ρ' L', Le F F' → StG g H' F' Gx' σ' ρ' L' → StG g H' F' Gx σ' ρ' (L ++ L')) := h.asideS
theorem StG.emptyS (h : StG g H F Gx σ ρ L) (i : Nat) : StG g H F Gx (σ.set i none) (ρ.set i none) L := by
  cases e : ρ[i]? with
  | none =>
    have hl : ρ.length ≤ i := List.getElem?_eq_none_iff.mp e
    have hl2 : σ.length ≤ i := by rw [h.len]; exact hl
    rw [List.set_eq_of_length_le hl, List.set_eq_of_length_le hl2]
    exact h
  | some r =>
    have wf : SlW (σ.set i none) (ρ.set i none) := fun j o q => by
      by_cases hj : i = j
      · subst hj
        have hl : i < ρ.length := (List.getElem?_eq_some_iff.mp e).1
        simp [hl] at q
      · rw [List.getElem?_set_ne hj] at q ⊢; exact h.wf j o q
    cases r with
    | none =>
      refine ⟨wf, by simpa using h.len, ?_⟩
      rw [slL_hole, set_self e]
      exact h.gd
    | some o =>
      obtain ⟨v, hv, st⟩ := h.take e
      refine ⟨wf, by simpa using h.len, ?_⟩
      rw [slL_hole]
      exact st.drop1.gd
end
def wipeR (ρ : Sls) : List Nat → Sls
  | [] => ρ
  | v :: vs => (wipeR ρ vs).set v none
theorem wipeR_length (ρ : Sls) : ∀ vs : List Nat, (wipeR ρ vs).length = ρ.length
  | [] => rfl
  | v :: vs => by unfold wipeR; rw [List.length_set, wipeR_length ρ vs]
section
variable {g : Gv} {H F Gx : Hp} {σ τ : L2.St} {ρ : Sls} {L : List (V × O)}
theorem StG.wipe (h : StG g H F Gx σ ρ L) : ∀ vs, StG g H F Gx (wipe σ vs) (wipeR ρ vs) L
  | [] => h
  | v :: vs => (StG.wipe h vs).emptyS v
theorem slL_agree : ∀ {σ τ : L2.St} {ρ : Sls}, σ.length = ρ.length → τ.length = ρ.length → (∀ (i : Nat) (o : O), ρ[i]? = some (some o) → σ[i]? = τ[i]?) → slL σ ρ = slL τ ρ
  | [], [], ρ, _, _, _ => rfl
  | s :: σ, t :: τ, r :: ρ, h1, h2, h3 => by
    have ih := slL_agree (σ := σ) (τ := τ) (ρ := ρ) (by simpa using h1) (by simpa using h2) fun i o e => by simpa using h3 (i + 1) o (by simpa using e)
    cases r with
    | none => rw [slL_none, slL_none, ih]
    | some o =>
      have e : s = t := by simpa using h3 0 o (by simp)
      subst e
      cases s with
      | none => rw [slL_drop, slL_drop, ih]
      | some v => show (v, o) :: slL σ ρ = (v, o) :: slL τ ρ; rw [ih]
  | [], _ :: _, ρ, h1, h2, _ => by simp at h1 h2; omega
  | _ :: _, [], ρ, h1, h2, _ => by simp at h1 h2; omega
  | _ :: _, _ :: _, [], h1, _, _ => by simp at h1
theorem StG.unwipe {vs : List Nat} (h : StG g H F Gx (L2.wipe σ vs) ρ L) : StG g H F Gx σ ρ L := by
  have ag : ∀ (i : Nat) (o : O), ρ[i]? = some (some o) → (L2.wipe σ vs)[i]? = σ[i]? := fun i o e => by
    obtain ⟨v, hv⟩ := h.wf i o e
    rw [hv, (wipe_some hv).1]
  have hl : σ.length = ρ.length := by rw [← h.len, wipe_length]
  refine ⟨fun i o e => ?_, hl, ?_⟩
  · obtain ⟨v, hv⟩ := h.wf i o e
    exact ⟨v, (wipe_some hv).1⟩
  · rw [← slL_agree h.len hl ag]
    exact h.gd
/-- an owned thing written, with more that it takes in -/
theorem Good.writeP {A L : List (V × O)} {o o' : O} {a : Addr} {u : HO} (h : Good g H F Gx ((.ref a, o) :: (A ++ L)))
    (r : ∀ S1 SA, RepO g H F o (.ref a) S1 → RepL g H F A SA → (∀ b, S1 b → SA b → False) → S1 a ∧ RepO g (upd H a u) F o' (.ref a) (fun b => S1 b ∨ SA b)) : Good g (upd H a u) F Gx ((.ref a, o') :: L) := by
  obtain ⟨S, hT, hF, hG, hFG, hS, S1, S2, sp, r1, r2⟩ := h.ex
  obtain ⟨SA, SL, sp2, rA, rL⟩ := RepL.split g A L S2 r2
  obtain ⟨ha, ro⟩ := r S1 SA r1 rA fun b h1 h2 => sp.d b h1 (sp2.l b h2)
  obtain ⟨nF, nG, _⟩ := hS a (sp.l a ha)
  refine ⟨S, hT.wr (sp.l a ha), fun b o e => ?_, fun b o e => ?_, hFG, fun b hb => ?_, fun b => S1 b ∨ SA b, SL, ⟨fun b hb => hb.elim (sp.l b) fun hb => sp.r b (sp2.l b hb), fun b hb => sp.r b (sp2.r b hb), fun b h1 h2 => h1.elim (fun h1 => sp.d b h1 (sp2.r b h2)) fun h1 => sp2.d b h1 h2⟩,
    ro, RepL.frame g (Le.refl F) L SL SL (fun _ h => h) (fun b hb => upd_ne (fun e => sp.d a ha (by rw [← e]; exact sp2.r b hb))) rL⟩
  · rw [upd_ne (fun q => by subst q; rw [nF] at e; cases e)]; exact hF b o e
  · rw [upd_ne (fun q => by subst q; rw [nG] at e; cases e)]; exact hG b o e
  · obtain ⟨x, y, z⟩ := hS b hb
    refine ⟨x, y, ?_⟩
    by_cases q : b = a
    · subst q; exact ⟨_, upd_same⟩
    · rw [upd_ne q]; exact z
theorem RepOs.snoc {H F : Hp} : ∀ {os : List O} {vs : List V} {S T : Addr → Prop} {o : O} {v : V}, RepOs g H F os vs S → RepO g H F o v T → (∀ b, S b → T b → False) → RepOs g H F (os ++ [o]) (vs ++ [v]) (fun b => S b ∨ T b)
  | [], vs, S, T, o, v, r, ro, _ => by
    rw [RepOs] at r
    subst r
    rw [List.nil_append, List.nil_append, RepOs]
    exact ⟨v, [], T, fun _ => False, rfl, ⟨fun _ h => .inr h, fun _ h => h.elim, fun _ _ h => h⟩, ro, by rw [RepOs]⟩
  | x :: os, vs, S, T, o, v, r, ro, d => by
    rw [RepOs] at r
    obtain ⟨w, ws, S1, S2, rfl, sp, r1, r2⟩ := r
    rw [List.cons_append, List.cons_append, RepOs]
    exact ⟨w, _, S1, fun b => S2 b ∨ T b, rfl, ⟨fun b h => .inl (sp.l b h), fun b h => h.elim (fun h => .inl (sp.r b h)) .inr, fun b h1 h2 => h2.elim (sp.d b h1) (d b (sp.l b h1))⟩, r1, RepOs.snoc r2 ro fun b h1 h2 => d b (sp.r b h1) h2⟩
theorem StG.push {Dd : Addr} {os : List O} {o : O} {y : V} (h : StG g H F Gx σ ρ ((.ref Dd, .lst os) :: (y, o) :: L)) : ∃ acc, H Dd = some (.lst acc) ∧ acc.length = os.length ∧ StG g (upd H Dd (.lst (acc ++ [y]))) F Gx σ ρ ((.ref Dd, .lst (os ++ [o])) :: L) := by
  obtain ⟨S, r⟩ := h.gd.view (B := (y, o) :: L ++ slL σ ρ)
  rw [RepO] at r
  obtain ⟨a, acc, e, sa, q, rs⟩ := r
  cases e
  refine ⟨acc, q, rs.length, h.wf, h.len, ?_⟩
  refine Good.writeP (A := [(y, o)]) (L := L ++ slL σ ρ) h.gd fun S1 SA r1 rA d => ?_
  rw [RepO] at r1
  obtain ⟨a, acc', e, sa', q', rs'⟩ := r1
  cases e
  rw [q] at q'; cases q'
  obtain ⟨T, T2, sp, ro, _⟩ := rA
  have ro' : RepO g H F o y SA := RepO.sup g (fun b hb => sp.l b hb) ro
  refine ⟨sa', ?_⟩
  rw [RepO]
  refine ⟨Dd, acc ++ [y], rfl, .inl sa', upd_same, ?_⟩
  have r3 := RepOs.snoc rs' ro' fun b h1 h2 => d b h1.1 h2
  refine RepOs.frame g (Le.refl F) _ _ _ _ (fun b hb => ?_) (fun b hb => upd_ne ?_) r3
  · rcases hb with hb | hb
    · exact ⟨.inl hb.1, hb.2⟩
    · exact ⟨.inr hb, fun e => d Dd sa' (by rw [← e]; exact hb)⟩
  · rcases hb with hb | hb
    · exact hb.2
    · exact fun e => d Dd sa' (by rw [← e]; exact hb)
end

/-! ### [.. for .. in .. if ..] -/
def wpM (own : List Nat) : M Unit := fun ρ => some (.ok (), wipeR ρ own)
def lcL (own : List Nat) (h : O → M Unit) (ft : M Bool) (fe : M O) : List D → M (List O)
  | [] => M.pure []
  | d :: ds => (h (.val d)).bind fun _ => ft.bind fun b => if b = true then fe.bind fun o => (wpM own).bind fun _ => (lcL own h ft fe ds).bind fun os => M.pure (o :: os) else (wpM own).bind fun _ => lcL own h ft fe ds
def lcF (own : List Nat) (fi : M (List D)) (h : O → M Unit) (ft : M Bool) (fe : M O) : M O := fi.bind fun ds => if ds.length ≤ lim then noX ((wpM own).bind fun _ => (lcL own h ft fe ds).bind fun os => M.pure (.lst os)) else M.stuck
/-- every slot but the block's own -/
def others (n : Nat) (own : List Nat) : List Nat := (List.range n).filter fun i => !own.contains i
abbrev W0 : WX := fun _ _ _ _ => False
theorem wipe_get (σ : L2.St) (i : Nat) : ∀ vs : List Nat, (L2.wipe σ vs)[i]? = if i ∈ vs then (if i < σ.length then some none else none) else σ[i]?
  | [] => by simp [L2.wipe]
  | v :: vs => by
    have ih := wipe_get σ i vs
    unfold L2.wipe
    by_cases hv : v = i
    · subst hv
      by_cases hl : v < σ.length
      · rw [List.getElem?_set_self (by rw [wipe_length]; exact hl)]; simp [hl]
      · rw [List.getElem?_eq_none (by rw [List.length_set, wipe_length]; omega)]; simp [hl]
    · rw [List.getElem?_set_ne hv, ih]
      have : (i ∈ v :: vs) = (i ∈ vs) := by simp [Ne.symm hv]
      simp only [this]
theorem wipe_pin {σ σ2 : L2.St} {own : List Nat} (p : Pin (others σ.length own) σ σ2) : L2.wipe σ2 own = L2.wipe σ own := by
  refine List.ext_getElem? fun i => ?_
  rw [wipe_get, wipe_get, p.1]
  by_cases h : i ∈ own
  · simp [h]
  · simp only [h, if_false]
    by_cases hl : i < σ.length
    · exact p.2 i (by unfold others; simp [hl, h])
    · have e1 := p.1
      rw [List.getElem?_eq_none (show σ2.length ≤ i by omega), List.getElem?_eq_none (show σ.length ≤ i by omega)]
section
variable {g : Gv} {h : O → M Unit} {ft : M Bool} {fe : M O} {own : List Nat}
theorem lc_run {J : It} {ds : List D} {C : Hp → Hp → Prop} {F Gx H : Hp} {σ : L2.St} {ρ : Sls} {Q : VK} {Dd : Addr} {n : Nat} (hn : n = σ.length) (it : ItG g J C ds) (hC : ∀ H' F' σ' ρ' L', Le F F' → StG g H' F' Gx σ' ρ' L' → C H' F') (st : StG g H F Gx (L2.wipe σ own) ρ []) (hz : ds.length ≤ lim) (hD : H Dd = none)
    (r : Okk ((lcL own h ft fe ds).bind fun os => M.pure (.lst os)) F ρ fun o H' F' ρ' => ∀ v, StG g H' F' Gx (L2.wipe σ own) ρ' [(v, o)] → Q v H') :
    ∃ Wv : Nat → Nat → Hp → Prop, (∃ m, Wv 0 m (upd H Dd (.lst []))) ∧ ∀ i m H, Wv i m H → (J.stop i H ∧ Q (.ref Dd) H) ∨ (J.go i H ∧ ∃ Nx : Hp → Prop, (∀ H', Nx H' → ∃ m', m' < m ∧ Wv (i + 1) m' H') ∧
      ∀ x H', J.yld i H x H' → Tg g W0 (others n own) h x (L2.wipe σ own) H' fun σ2 H2 => L2.wipe σ2 own = L2.wipe σ own ∧ Tt g W0 ft σ2 H2 fun b H3 =>
        if b = true then T g W0 fe σ2 H3 fun y H4 => ∃ acc, H4 Dd = some (.lst acc) ∧ acc.length < sizeLine ∧ Nx (upd H4 Dd (.lst (acc ++ [y]))) else Nx H3) := by
  subst hn
  have wl : (L2.wipe σ own).length = σ.length := wipe_length σ own
  have ww : L2.wipe (L2.wipe σ own) own = L2.wipe σ own := by
    refine List.ext_getElem? fun i => ?_
    rw [wipe_get, wipe_get, wl]
    by_cases q : i ∈ own <;> simp [q]
  have st0 : StG g (upd H Dd (.lst [])) F Gx (L2.wipe σ own) ρ [(.ref Dd, .lst [])] := ⟨st.wf, st.len, Good.newO (L := slL (L2.wipe σ own) ρ) st.gd hD fun S hS => by
    rw [RepO]; exact ⟨Dd, [], rfl, hS, upd_same, by rw [RepOs]⟩⟩
  refine ⟨fun i m H1 => m = ds.length - i ∧ i ≤ ds.length ∧ ∃ F1 ρ1 os, Le F F1 ∧ os.length ≤ i ∧ StG g H1 F1 Gx (L2.wipe σ own) ρ1 [(.ref Dd, .lst os)] ∧
    Okk ((lcL own h ft fe (ds.drop i)).bind fun rest => M.pure (.lst (os ++ rest))) F1 ρ1 fun o H' F' ρ' => ∀ v, StG g H' F' Gx (L2.wipe σ own) ρ' [(v, o)] → Q v H',
    ⟨ds.length, by simp, Nat.zero_le _, F, ρ, [], Le.refl F, Nat.le_refl _, st0, by simpa using r⟩, ?_⟩
  rintro i m H1 ⟨rfl, hi, F1, ρ1, os, le1, hos, st1, r1⟩
  have c1 := hC H1 F1 _ ρ1 _ le1 st1
  by_cases hlt : i < ds.length
  · refine .inr ⟨it.go i H1 F1 hlt c1, fun H' => ∃ F' ρ' os', Le F F' ∧ os'.length ≤ i + 1 ∧ StG g H' F' Gx (L2.wipe σ own) ρ' [(.ref Dd, .lst os')] ∧
      Okk ((lcL own h ft fe (ds.drop (i + 1))).bind fun rest => M.pure (.lst (os' ++ rest))) F' ρ' (fun o H' F' ρ' => ∀ v, StG g H' F' Gx (L2.wipe σ own) ρ' [(v, o)] → Q v H'),
      fun H' ⟨F', ρ', os', a, b, c, d⟩ => ⟨ds.length - (i + 1), by omega, rfl, hlt, F', ρ', os', a, b, c, d⟩, fun x H' y => ?_⟩
    obtain ⟨F2, le2, st2, rx⟩ := it.yld i ds[i] H1 F1 Gx _ ρ1 _ x H' (by simp [hlt]) c1 st1 y
    have e : ds.drop i = ds[i] :: ds.drop (i + 1) := List.drop_eq_getElem_cons hlt
    rw [e] at r1
    have r2 : Okk (((h (.val ds[i])).bind fun _ => ft.bind fun b => if b = true then fe.bind fun o => (wpM own).bind fun _ => (lcL own h ft fe (ds.drop (i + 1))).bind fun os => M.pure (o :: os) else (wpM own).bind fun _ => lcL own h ft fe (ds.drop (i + 1))).bind fun rest => M.pure (.lst (os ++ rest))) F2 ρ1 (fun o H' F' ρ' => ∀ v, StG g H' F' Gx (L2.wipe σ own) ρ' [(v, o)] → Q v H') := r1.le le2
    obtain ⟨Gx1, st3, back⟩ := st2.asideS
    refine ⟨F2, Gx1, ρ1, .val ds[i], st3.ofVal rx, ?_⟩
    rw [M.bind_assoc] at r2
    refine (Okk.rs r2.bind).mono fun _ H3 F3 σ3 ρ3 le3 p3 r5 st4 => ?_
    have p3' : Pin (others (L2.wipe σ own).length own) (L2.wipe σ own) σ3 := by rw [wl]; exact p3
    have w3 : L2.wipe σ3 own = L2.wipe σ own := (wipe_pin p3').trans ww
    rw [M.bind_assoc] at r5
    refine ⟨w3, F3, Gx1, ρ3, st4, Okk.rn (Okk.mono r5.bind fun b H4 F4 ρ4 le4 r6 st5 => ?_)⟩
    cases b with
    | true =>
      simp only [if_true, M.bind_assoc, M.pure_bind] at r6
      refine ⟨F4, Gx1, ρ4, st5, Okk.rn (Okk.mono r6.bind fun o H5 F5 ρ5 le5 r7 v st6 => ?_)⟩
      have st7 := back H5 F5 _ ρ5 _ ((le3.trans le4).trans le5) st6
      obtain ⟨acc, ha, hl, st8⟩ := StG.push (L := []) st7
      refine ⟨acc, ha, by rw [hl, sizeLine_eq]; unfold lim at hz; omega, F5, wipeR ρ5 own, os ++ [o], ((le1.trans le2).trans (le3.trans le4)).trans le5, by simp; omega, ?_, ?_⟩
      · have st9 := st8.wipe own
        rw [w3] at st9
        exact st9
      · have r8 := r7.bind.ok (a := ()) (ρ' := wipeR ρ5 own) rfl H5 F5 (Le.refl _)
        simpa using r8
    | false =>
      simp only [Bool.false_eq_true, if_false, M.bind_assoc, M.pure_bind] at r6
      have st7 := back H4 F4 _ ρ4 _ (le3.trans le4) st5
      have st9 := st7.wipe own
      rw [w3] at st9
      have r8 := r6.bind.ok (a := ()) (ρ' := wipeR ρ4 own) rfl H4 F4 (Le.refl _)
      exact ⟨F4, wipeR ρ4 own, os, (le1.trans le2).trans (le3.trans le4), by omega, st9, r8⟩
  · have e : i = ds.length := by omega
    subst e
    rw [List.drop_length] at r1
    refine .inl ⟨it.stop H1 F1 c1, ?_⟩
    have r2 : Okk (M.pure (O.lst (os ++ []))) F1 ρ1 fun o H' F' ρ' => ∀ v, StG g H' F' Gx (L2.wipe σ own) ρ' [(v, o)] → Q v H' := r1
    rw [List.append_nil] at r2
    exact r2.pure H1 F1 (Le.refl _) _ st1
end
/-- a slot's thing put back -/
def bk (i : Nat) (o : O) : M Unit := fun ρ => match ρ[i]? with
  | some none => some (.ok (), ρ.set i (some o))
  | _ => none
def lcB (own : List Nat) (i : Nat) (h : O → M Unit) (ft : M Bool) (fe : M O) : M O := (mv i).bind fun o => (M.of o.dsL).bind fun ds => if ds.length ≤ lim then noX ((wpM own).bind fun _ => (lcL own h ft fe ds).bind fun os => (bk i o).bind fun _ => M.pure (.lst os)) else M.stuck
def setB (i : Nat) (f : M O) : M Out := setS i f
section
variable {W : WX} {X : Cx} {ca : Ca} {pn : List Nat} {elt tg iter e : Expr} {ifs : List Expr} {scope : Scope} {own : List (Str × Nat)} {pos : Pos} {h : O → M Unit} {ft : M Bool} {fe : M O} {fi : M (List D)}
theorem ts_nil {g : Gv} : PTs X [] (Tt g W (M.pure true)) := ⟨fun pins s σ H Q I h => pts_nil.run pins s σ H Q I (Tt_pure h)⟩
theorem ts_one {g : Gv} {c : Expr} {f : M Bool} (h : PT X c (Tt g W f)) : PTs X [c] (Tt g W f) := pts_one h
theorem wipe_id (σ : L2.St) (own : List Nat) : L2.wipe (L2.wipe σ own) own = L2.wipe σ own := by
  refine List.ext_getElem? fun i => ?_
  rw [wipe_get, wipe_get, wipe_length]
  by_cases q : i ∈ own <;> simp [q]
/-- the comprehension's question, from a run -/
theorem lc_ask {g : Gv} {vs : List Nat} {n : Nat} {σ : L2.St} {H : Hp} {Q : VK} (hn : n = σ.length) (r : T g W (lcF vs fi h ft fe) σ H Q) : tLc (Ti g W fi) (Tg g W0 (others n vs) h) (Tt g W0 ft) (T g W0 fe) vs σ H Q := by
  obtain ⟨F, Gx, ρ, st, r⟩ := r
  refine ⟨F, Gx, ρ, st, r.bind.mono fun ds H1 F1 ρ1 le r1 J F2 le2 st2 it Dd hD => ?_⟩
  split at r1
  · rename_i hz
    have r2 : Okk _ F2 ρ1 _ := (Okk.mono r1.okk fun o H' F' ρ' le q => q).le le2
    have r3 := r2.bind.ok (a := ()) (ρ' := wipeR ρ1 vs) rfl H1 F2 (Le.refl _)
    refine lc_run (F := F2) hn it (fun H' F' σ' ρ' L' l s => ⟨l, s.le⟩) (st2.wipe vs) hz hD (Okk.mono r3 fun o H' F' ρ' le q v st' => q v st'.unwipe)
  · obtain ⟨_, _, e⟩ := r1.run; cases e
theorem e_lc (hc : X.calm = true) (hN : X.N.Nodup) (hi : PI X tg iter (Ti (gv X ca) W fi)) (ok : BlkOk X.N X.env.scope scope own)
    (hg : ∀ (s : Shared) (H : Hp) (C : Addr) (cl : List (Str × Addr)) (fp : List Addr), PG (X.blk s H scope (compEnvC scope cl C X.env) fp) tg (Tg (gv X ca) W0 (others X.N.length (own.map (·.2))) h))
    (ht : ∀ (s : Shared) (H : Hp) (C : Addr) (cl : List (Str × Addr)) (fp : List Addr), PTs (X.blk s H scope (compEnvC scope cl C X.env) fp) ifs (Tt (gv X ca) W0 ft))
    (he : ∀ (s : Shared) (H : Hp) (C : Addr) (cl : List (Str × Addr)) (fp : List Addr), PE (X.blk s H scope (compEnvC scope cl C X.env) fp) elt (T (gv X ca) W0 fe)) (hs : ∀ x, foldedSetIterable iter X.env x = pure x := by intro _; rfl) :
    PE X (.ListComp elt [⟨tg, iter, ifs, 0⟩] scope pos) (T (gv X ca) W (lcF (own.map (·.2)) fi h ft fe)) :=
  ⟨fun pins s σ H Q I q => (pe_lc hc hN hi ok hg ht he hs).run pins s σ H Q I (lc_ask I.len.symm q)⟩
theorem s_setLc {i : Nat} {y : Str} {py spos : Pos} (hc : X.calm = true) (hN : X.N.Nodup) (hy : X.N[i]? = some y) (hyl : X.env.scope.names.lookup y = some .local) (hp : i ∉ pn)
    (hsw : swapsWith (.ListComp elt [⟨tg, iter, ifs, 0⟩] scope pos) (some (.Name y py)) spos.line X.env = pure true) (hi : PI X tg iter (Ti (gv X ca) W fi)) (ok : BlkOk X.N X.env.scope scope own)
    (hg : ∀ (s : Shared) (H : Hp) (C : Addr) (cl : List (Str × Addr)) (fp : List Addr), PG (X.blk s H scope (compEnvC scope cl C X.env) fp) tg (Tg (gv X ca) W0 (others X.N.length (own.map (·.2))) h))
    (ht : ∀ (s : Shared) (H : Hp) (C : Addr) (cl : List (Str × Addr)) (fp : List Addr), PTs (X.blk s H scope (compEnvC scope cl C X.env) fp) ifs (Tt (gv X ca) W0 ft))
    (he : ∀ (s : Shared) (H : Hp) (C : Addr) (cl : List (Str × Addr)) (fp : List Addr), PE (X.blk s H scope (compEnvC scope cl C X.env) fp) elt (T (gv X ca) W0 fe)) (hs : ∀ x, foldedSetIterable iter X.env x = pure x := by intro _; rfl) :
    PS X (.Assign [.Name y py] (.ListComp elt [⟨tg, iter, ifs, 0⟩] scope pos) spos) (Ts (gv X ca) W pn (setS i (lcF (own.map (·.2)) fi h ft fe))) :=
  ⟨fun pins s σ H D I ⟨F, Gx, ρ, st, r⟩ => (ps_setLc hc hN hy hyl hsw hi ok hg ht he hs).run pins s σ H D I (lc_ask (W := W) I.len.symm ⟨F, Gx, ρ, st, r.expr.mono fun o H' F' ρ' le r1 v st' => Ts_nx (Ts_put hp st' r1)⟩)⟩
/-- .. over a list that a slot owns -/
theorem lcB_ask {g : Gv} {vs : List Nat} {n i : Nat} {σ : L2.St} {H : Hp} {Q : VK} (hn : n = σ.length) (hi : i ∉ vs) (r : T g W (lcB vs i h ft fe) σ H Q) : tLc (iSeq g.K (tVar i)) (Tg g W0 (others n vs) h) (Tt g W0 ft) (T g W0 fe) vs σ H Q := by
  obtain ⟨F, Gx, ρ, st, r⟩ := r
  obtain ⟨_, _, e0⟩ := r.run
  cases q0 : ρ[i]? with
  | none => unfold lcB M.bind mv at e0; rw [q0] at e0; cases e0
  | some s =>
    cases s with
    | none => unfold lcB M.bind mv at e0; rw [q0] at e0; cases e0
    | some o =>
      obtain ⟨v, hv, st1⟩ := st.take q0
      have e1 : mv i ρ = some (.ok o, ρ.set i none) := by unfold mv; rw [q0]
      have r1 := r.bind.ok e1 H F (Le.refl _)
      obtain ⟨ds, hd, r2⟩ := r1.bind.of
      have r3 := r2 H F (Le.refl _)
      obtain ⟨S, rv⟩ := Good.view (B := [] ++ slL σ (ρ.set i none)) st1.gd
      obtain ⟨a, us, rfl, ha, rus⟩ := dsL_ok st1.le rv hd
      split at r3
      · rename_i hz
        obtain ⟨Gx', st2, back⟩ := st1.asideS
        refine ⟨.ref a, hv, .inl ⟨a, rfl, ⟨us, SqL.of ha⟩, fun Dd hD => ?_⟩⟩
        have r4 : Okk _ F (ρ.set i none) _ := r3.okk
        have r5 := r4.bind.ok (a := ()) (ρ' := wipeR (ρ.set i none) vs) rfl H F (Le.refl _)
        refine lc_run hn itg_list (fun H' F' σ' ρ' L' l s => ?_) (st2.wipe vs) hz hD ?_
        · have s2 := back H' F' σ' ρ' L' l s
          obtain ⟨S', rv'⟩ := Good.view (B := L' ++ slL σ' ρ') s2.gd
          obtain ⟨a', us', e, ha', rus'⟩ := dsL_ok s2.le rv' hd
          cases e
          exact ⟨us', ha', rus'⟩
        · -- the end: the slot has it again
          have key : ∀ (ρ' : Sls) os H' F', Le F F' → (Okk ((bk i o).bind fun _ => M.pure (.lst os)) F' ρ' fun o H' F' ρ' => ∀ v, StG g H' F' Gx σ ρ' [(v, o)] → Q v H') → ∀ w, StG g H' F' Gx' (L2.wipe σ vs) ρ' [(w, .lst os)] → Q w H' := fun ρ' os H' F' l q w s => by
            have s2 := back H' F' _ ρ' _ l s
            have s3 := s2.unwipe
            obtain ⟨_, _, e2⟩ := q.run
            cases q2 : ρ'[i]? with
            | none => unfold M.bind bk at e2; rw [q2] at e2; cases e2
            | some z =>
              cases z with
              | some _ => unfold M.bind bk at e2; rw [q2] at e2; cases e2
              | none =>
                have s4 := s3.putback hv q2
                have e3 : bk i o ρ' = some (.ok (), ρ'.set i (some o)) := by unfold bk; rw [q2]
                exact (q.bind.ok e3 H' F' (Le.refl _)).pure H' F' (Le.refl _) w s4
          obtain ⟨a5, ρ5, e5⟩ := r5.run
          have r6 := r5.bind
          unfold Okk at r6 ⊢
          cases q6 : lcL vs h ft fe ds (wipeR (ρ.set i none) vs) with
          | none => rw [q6] at r6; exact r6.elim
          | some p6 =>
            obtain ⟨rz, ρ6⟩ := p6
            rw [q6] at r6
            cases rz with
            | ex x => exact r6.elim
            | ok os =>
              have e7 : ((lcL vs h ft fe ds).bind fun os => M.pure (O.lst os)) (wipeR (ρ.set i none) vs) = some (.ok (O.lst os), ρ6) := by unfold M.bind; rw [q6]; rfl
              rw [e7]
              intro H' F' l w s
              exact key ρ6 os H' F' l (r6 H' F' l) w s
      · obtain ⟨_, _, e⟩ := r3.run; cases e
theorem e_lcB (i : Nat) (hc : X.calm = true) (hN : X.N.Nodup) (hv : PE X iter (tVar i)) (hio : i ∉ own.map (·.2)) (ok : BlkOk X.N X.env.scope scope own)
    (hg : ∀ (s : Shared) (H : Hp) (C : Addr) (cl : List (Str × Addr)) (fp : List Addr), PG (X.blk s H scope (compEnvC scope cl C X.env) fp) tg (Tg (gv X ca) W0 (others X.N.length (own.map (·.2))) h))
    (ht : ∀ (s : Shared) (H : Hp) (C : Addr) (cl : List (Str × Addr)) (fp : List Addr), PTs (X.blk s H scope (compEnvC scope cl C X.env) fp) ifs (Tt (gv X ca) W0 ft))
    (he : ∀ (s : Shared) (H : Hp) (C : Addr) (cl : List (Str × Addr)) (fp : List Addr), PE (X.blk s H scope (compEnvC scope cl C X.env) fp) elt (T (gv X ca) W0 fe)) (hs : ∀ x, foldedSetIterable iter X.env x = pure x := by intro _; rfl) :
    PE X (.ListComp elt [⟨tg, iter, ifs, 0⟩] scope pos) (T (gv X ca) W (lcB (own.map (·.2)) i h ft fe)) :=
  ⟨fun pins s σ H Q I q => (pe_lc hc hN (pi_seq hv) ok hg ht he hs).run pins s σ H Q I (lcB_ask I.len.symm hio q)⟩
end
end PF

set_option Elab.async false
set_option linter.all false
set_option maxRecDepth 100000
set_option maxHeartbeats 2000000
namespace PF
open PySem PySem.Spec PyProof.Rows L2

/-! ### keys -/
theorem toNk_tup {ds : List D} {k : NestedKey} (h : toNk (.tup ds) = some k) : ∃ ks, toNks ds = some ks ∧ k = .tup ks := by
  rw [toNk] at h
  obtain ⟨ks, h1, h2⟩ := Option.map_eq_some_iff.mp h
  exact ⟨ks, h1, h2.symm⟩
theorem toNks_cons {d : D} {ds : List D} {ks : List NestedKey} (h : toNks (d :: ds) = some ks) : ∃ k r, toNk d = some k ∧ toNks ds = some r ∧ ks = k :: r := by
  rw [toNks] at h
  split at h
  · rename_i k r h1 h2; cases h; exact ⟨k, r, h1, h2, rfl⟩
  · cases h
mutual
theorem eqv_nk : ∀ (a b : D) (k l : NestedKey), toNk a = some k → toNk b = some l → a.eqv b = decide (k = l)
  | .non, b, k, l, h, h' => by
    rw [toNk] at h; cases h
    cases b <;> first
      | (simp [toNk] at h'; done)
      | (rw [toNk] at h'; cases h'; simp [D.eqv])
      | (obtain ⟨ks, _, rfl⟩ := toNk_tup h'; simp [D.eqv])
  | .int i, b, k, l, h, h' => by
    rw [toNk] at h; cases h
    cases b <;> first
      | (simp [toNk] at h'; done)
      | (rw [toNk] at h'; cases h'; simp [D.eqv]; done)
      | (rw [toNk] at h'; cases h'; rw [D.eqv, Bool.beq_eq_decide_eq]; simp)
      | (obtain ⟨ks, _, rfl⟩ := toNk_tup h'; simp [D.eqv])
  | .str x, b, k, l, h, h' => by
    rw [toNk] at h; cases h
    cases b <;> first
      | (simp [toNk] at h'; done)
      | (rw [toNk] at h'; cases h'; simp [D.eqv]; done)
      | (rw [toNk] at h'; cases h'; rw [D.eqv, Bool.beq_eq_decide_eq]; simp)
      | (obtain ⟨ks, _, rfl⟩ := toNk_tup h'; simp [D.eqv])
  | .tup xs, b, k, l, h, h' => by
    obtain ⟨ks, h1, rfl⟩ := toNk_tup h
    cases b with
    | tup ys =>
      obtain ⟨ls, h2, rfl⟩ := toNk_tup h'
      rw [D.eqv, eqvs_nk xs ys ks ls h1 h2]
      simp
    | _ => first
      | (simp [toNk] at h'; done)
      | (rw [toNk] at h'; cases h'; simp [D.eqv])
  | .bl _, b, k, l, h, h' => by simp [toNk] at h
  | .lst _, b, k, l, h, h' => by simp [toNk] at h
  | .dct _ _ _, b, k, l, h, h' => by simp [toNk] at h
  | .ins _ _ _, b, k, l, h, h' => by simp [toNk] at h
  | .scr _, b, k, l, h, h' => by simp [toNk] at h
  | .ty _, b, k, l, h, h' => by simp [toNk] at h
  | .exn _ _ _, b, k, l, h, h' => by simp [toNk] at h
theorem eqvs_nk : ∀ (a b : List D) (k l : List NestedKey), toNks a = some k → toNks b = some l → D.eqvs a b = decide (k = l)
  | [], [], k, l, h, h' => by rw [toNks] at h h'; cases h; cases h'; simp [D.eqvs]
  | [], _ :: _, k, l, h, h' => by
    rw [toNks] at h; cases h
    obtain ⟨a, r, _, _, rfl⟩ := toNks_cons h'
    simp [D.eqvs]
  | _ :: _, [], k, l, h, h' => by
    rw [toNks] at h'; cases h'
    obtain ⟨a, r, _, _, rfl⟩ := toNks_cons h
    simp [D.eqvs]
  | x :: xs, y :: ys, k, l, h, h' => by
    obtain ⟨a, r, h1, h2, rfl⟩ := toNks_cons h
    obtain ⟨b, t, h3, h4, rfl⟩ := toNks_cons h'
    rw [D.eqvs, eqv_nk x y a b h1 h3, eqvs_nk xs ys r t h2 h4]
    by_cases e1 : a = b <;> by_cases e2 : r = t <;> simp [e1, e2]
end
def dget {α : Type} : List D → List α → D → Option α
  | k :: ks, v :: vs, x => if k.eqv x = true then some v else dget ks vs x
  | _, _, _ => none
/-- stored: at the old place, or behind -/
def dputK : List D → D → List D
  | [], x => [x]
  | k :: ks, x => if k.eqv x = true then k :: ks else k :: dputK ks x
def dputV {α : Type} : List D → List α → D → α → List α
  | k :: ks, v :: vs, x, y => if k.eqv x = true then y :: vs else v :: dputV ks vs x y
  | _, vs, _, y => vs ++ [y]

section
variable {X : Cx} {ca : Ca} {pins : List (Addr × Obj)} {σ : L2.St} {H F : Hp} {s : Shared}
mutual
theorem nk_is (I : Inv X pins σ H s) (le : Le F H) : ∀ (d : D) (k : NestedKey) (v : V) (u : Value), toNk d = some k → RepV (gv X ca) F d v → RelV v u → NestedIs s.heap k u
  | .non, k, v, u, h, r, q => by
    rw [toNk] at h; cases h
    rw [RepV] at r; subst r; cases q; exact .none
  | .int i, k, v, u, h, r, q => by
    rw [toNk] at h; cases h
    rw [RepV] at r; subst r; obtain ⟨t, rfl⟩ := q; exact .int i t
  | .str i, k, v, u, h, r, q => by
    rw [toNk] at h; cases h
    rw [RepV] at r; subst r; obtain ⟨t, rfl⟩ := q; exact .text i t
  | .tup ds, k, v, u, h, r, q => by
    obtain ⟨ks, h1, rfl⟩ := toNk_tup h
    rw [RepV] at r
    obtain ⟨a, vs, rfl, hq, rs⟩ := r
    cases q
    obtain ⟨its, rv, ⟨o, ho, hc, n, hd⟩, _⟩ := I.tuple (SqT.mono le hq)
    exact .tup ho hc hd (by simpa using nks_are I le ds ks vs its h1 rs rv)
  | .bl _, k, v, u, h, r, q => by simp [toNk] at h
  | .lst _, k, v, u, h, r, q => by simp [toNk] at h
  | .dct _ _ _, k, v, u, h, r, q => by simp [toNk] at h
  | .ins _ _ _, k, v, u, h, r, q => by simp [toNk] at h
  | .scr _, k, v, u, h, r, q => by simp [toNk] at h
  | .ty _, k, v, u, h, r, q => by simp [toNk] at h
  | .exn _ _ _, k, v, u, h, r, q => by simp [toNk] at h
theorem nks_are (I : Inv X pins σ H s) (le : Le F H) : ∀ (ds : List D) (ks : List NestedKey) (vs : List V) (us : List Value), toNks ds = some ks → RepVs (gv X ca) F ds vs → Vals vs us → NestedAll s.heap ks us
  | [], ks, vs, us, h, r, q => by
    rw [toNks] at h; cases h
    rw [RepVs] at r; subst r; cases q; exact .nil
  | d :: ds, ks, vs, us, h, r, q => by
    obtain ⟨k, l, h1, h2, rfl⟩ := toNks_cons h
    rw [RepVs] at r
    obtain ⟨v, w, rfl, r1, r2⟩ := r
    cases q with
    | cons q1 q2 => exact .cons (nk_is I le d k v _ h1 r1 q1) (nks_are I le ds l w _ h2 r2 q2)
end
/-- how the keys of such a dict stand -/
structure NKs (g : Gv) (F : Hp) (ks : List D) (xs : List (NestedKey × Addr × V)) : Prop where
  rep : RepVs g F ks (xs.map fun x => .ref x.2.1)
  nk : ks.map toNk = xs.map fun x => some x.1
  dep : ∀ x ∈ xs, x.1.depth ≤ 8
abbrev NRel (x : NestedKey × Addr × V) (y : NestedKey × Addr × Value) : Prop := x.1 = y.1 ∧ x.2.1 = y.2.1 ∧ RelV x.2.2 y.2.2
theorem NKs.is (I : Inv X pins σ H s) (le : Le F H) : ∀ {ks : List D} {xs : List (NestedKey × Addr × V)} {ys : List (NestedKey × Addr × Value)}, NKs (gv X ca) F ks xs → Paired NRel xs ys → ∀ y ∈ ys, (nestedKind X.prog X.w).is s.heap y.1 y.2.1
  | [], [], _, _, .nil => fun y hy => by cases hy
  | _ :: _, [], _, n, .nil => fun y hy => by cases hy
  | [], x :: xs, _, n, .cons _ _ => by have := n.nk; simp at this
  | k :: ks, x :: xs, y :: ys, n, .cons r t => fun z hz => by
    have e := n.nk
    simp only [List.map_cons, List.cons.injEq] at e
    have rp := n.rep
    rw [List.map_cons, RepVs] at rp
    obtain ⟨v, w, ev, r1, r2⟩ := rp
    cases ev
    rcases List.mem_cons.mp hz with rfl | hz
    · obtain ⟨e1, e2, _⟩ := r
      rw [← e1, ← e2]
      exact ⟨nk_is I le k x.1 _ _ e.1 r1 rfl, n.dep x (by simp)⟩
    · exact NKs.is I le ⟨r2, e.2, fun x hx => n.dep x (by simp [hx])⟩ t z hz
theorem dN_of {a : Addr} {ks : List D} {xs : List (NestedKey × Addr × V)} (I : Inv X pins σ H s) (le : Le F H) (n : NKs (gv X ca) F ks xs) (h : H a = some (dTN (gv X ca) a xs)) :
    xs.length ≤ sizeLine ∧ (a == sysModules) = false ∧ ∃ ys, Paired NRel xs ys ∧ s.heap.DictOfH (nestedKind X.prog X.w) a ys := by
  have ok := I.hok a _ h
  unfold dTN at ok
  obtain ⟨⟨z, lo, ys, pr, o, es, ep, h1, h2, h3, h4, h5⟩, _, _⟩ := ok
  exact ⟨z, lo, ys, pr, o, es, ep, h1, h2, h3, h4, n.is I le pr, h5⟩
theorem dN_new {H' : Hp} {h' : Heap} {P : Program} {w : World} {K : PySem.W.Frag} {a : Addr} {xs : List (NestedKey × Addr × V)} {ys : List (NestedKey × Addr × Value)} (z : xs.length ≤ sizeLine) (lo : (a == sysModules) = false) (pr : Paired NRel xs ys) (d : h'.DictOfH (nestedKind P w) a ys) :
    ObjOk P w H' h' a (dTN ⟨P, w, K, ca⟩ a xs) := by
  obtain ⟨o, es, ep, h1, h2, h3, h4, _, h5⟩ := d
  refine ⟨⟨z, lo, ys, pr, o, es, ep, h1, h2, h3, h4, h5⟩, ⟨o, h1⟩, fun g1 g2 q k => ?_⟩
  obtain ⟨z, lo, ys, pr, o, es, ep, h1, h2, h3, h4, h5⟩ := q
  exact ⟨z, lo, ys, pr, o, es, ep, k _ h1, h2, h3, h4, h5⟩
/-- found alike -/
theorem dget_at {x : D} {kx : NestedKey} (hx : toNk x = some kx) : ∀ {ks : List D} {xs : List (NestedKey × Addr × V)} {ys : List (NestedKey × Addr × Value)}, ks.map toNk = xs.map (fun x => some x.1) → Paired NRel xs ys → RelO (dget ks (xs.map fun x => x.2.2) x) ((atKey ys kx).map (·.2))
  | [], [], _, _, .nil => by simp [dget, atKey, RelO]
  | _ :: _, [], _, n, .nil => by simp at n
  | [], x :: xs, _, n, .cons _ _ => by simp at n
  | k :: ks, z :: xs, y :: ys, n, .cons r t => by
    simp only [List.map_cons, List.cons.injEq] at n
    have ih := dget_at hx n.2 t
    obtain ⟨e1, e2, e3⟩ := r
    have e := eqv_nk k x z.1 kx n.1 hx
    rw [List.map_cons, dget, e]
    by_cases q : z.1 = kx
    · have q2 : y.1 = kx := by rw [← e1]; exact q
      simp [q, q2, atKey, RelO]
      exact e3
    · have q2 : ¬ y.1 = kx := by rw [← e1]; exact q
      simpa [q, q2, atKey, List.find?_cons] using ih
theorem dany {x : D} : ∀ {α : Type} {ks : List D} {vs : List α}, vs.length = ks.length → (ks.any fun k => k.eqv x) = (dget ks vs x).isSome
  | _, [], [], _ => rfl
  | _, k :: ks, v :: vs, h => by
    rw [List.any_cons, dget, dany (ks := ks) (vs := vs) (by simpa using h)]
    cases k.eqv x <;> simp
  | _, [], _ :: _, h => by simp at h
  | _, _ :: _, [], h => by simp at h
/-- a key that may stand in such a dict -/
def nkOk (d : D) : Bool := match d with
  | .tup _ => (match toNk d with
    | some k => decide (k.depth ≤ 8)
    | none => false)
  | _ => false
theorem nkOk_is {d : D} (h : nkOk d = true) : ∃ ds k, d = .tup ds ∧ toNk d = some k ∧ k.depth ≤ 8 := by
  unfold nkOk at h
  split at h
  · rename_i ds
    split at h
    · rename_i k hk; exact ⟨ds, k, rfl, hk, of_decide_eq_true h⟩
    · cases h
  · cases h
end

/-! ### views of dicts -/
/-- (nested?, keys, values) -/
def O.asD : O → Option (Bool × List D × List O)
  | .val (.dct t ks vs) => some (t, ks, vs.map .val)
  | .dct t ks os => some (t, ks, os)
  | _ => none
section
variable {g : Gv} {H F : Hp}
theorem asD_true {o : O} {v : V} {S : Addr → Prop} {ks : List D} {os : List O} (le : Le F H) (r : RepO g H F o v S) (e : o.asD = some (true, ks, os)) : ∃ a, ∃ xs : List (NestedKey × Addr × V), v = .ref a ∧ NKs g F ks xs ∧ H a = some (dTN g a xs) ∧ ∃ S', RepOs g H F os (xs.map fun x => x.2.2) S' := by
  cases o with
  | val d =>
    cases d with
    | dct t ks vs =>
      rw [O.asD] at e; cases e
      rw [RepO, RepV] at r
      obtain ⟨a, xs, rfl, e2, e3, e4, e5, rs⟩ := r
      exact ⟨a, xs, rfl, ⟨e2, e3, e4⟩, le _ _ e5, fun _ => False, RepVs.os rs _⟩
    | _ => simp [O.asD] at e
  | dct t ks os =>
    rw [O.asD] at e; cases e
    rw [RepO] at r
    obtain ⟨a, xs, rfl, sa, e2, e3, e4, e5, rs⟩ := r
    exact ⟨a, xs, rfl, ⟨e2, e3, e4⟩, e5, _, rs⟩
  | _ => simp [O.asD] at e
theorem asD_false {o : O} {v : V} {S : Addr → Prop} {ks : List D} {os : List O} (le : Le F H) (r : RepO g H F o v S) (e : o.asD = some (false, ks, os)) : ∃ a us, v = .ref a ∧
    ((∃ kk : List Key, ks = kk.map keyD ∧ kk.Nodup ∧ kk.length = us.length ∧ H a = some (.dK (kk.zip us))) ∨ KDc g a ks us) ∧ ∃ S', RepOs g H F os us S' := by
  cases o with
  | val d =>
    cases d with
    | dct t ks vs =>
      rw [O.asD] at e; cases e
      rw [RepO, RepV] at r
      obtain ⟨a, us, rfl, q, rs⟩ := r
      refine ⟨a, us, rfl, ?_, fun _ => False, RepVs.os rs _⟩
      rcases q with ⟨kk, e1, e2, e3, e4⟩ | q
      · exact .inl ⟨kk, e1, e2, e3, le _ _ e4⟩
      · exact .inr q
    | _ => simp [O.asD] at e
  | dct t ks os =>
    rw [O.asD] at e; cases e
    rw [RepO] at r
    obtain ⟨a, us, rfl, sa, q, rs⟩ := r
    exact ⟨a, us, rfl, .inl q, _, rs⟩
  | _ => simp [O.asD] at e
theorem dget_os : ∀ {ks : List D} {os : List O} {us : List V} {S : Addr → Prop} {x : D}, RepOs g H F os us S → (∃ o v S', dget ks os x = some o ∧ dget ks us x = some v ∧ RepO g H F o v S') ∨ (dget ks os x = none ∧ dget ks us x = none)
  | [], os, us, S, x, _ => .inr ⟨by simp [dget], by simp [dget]⟩
  | k :: ks, [], us, S, x, r => by
    rw [RepOs] at r
    subst r
    exact .inr ⟨by simp [dget], by simp [dget]⟩
  | k :: ks, o :: os, us, S, x, r => by
    rw [RepOs] at r
    obtain ⟨v, w, S1, S2, rfl, sp, r1, r2⟩ := r
    rw [dget, dget]
    by_cases q : k.eqv x = true
    · simp only [q, if_true]
      exact .inl ⟨o, v, S1, rfl, rfl, r1⟩
    · simp only [q, if_false]
      exact dget_os r2
end
/-- a key of an int or text dict -/
def D.key : D → Option Key
  | .str x => some (.inr x)
  | _ => none
theorem key_eqv (k l : Key) : (keyD k).eqv (keyD l) = decide (k = l) := by
  cases k <;> cases l <;> simp [keyD, D.eqv, Bool.beq_eq_decide_eq]
theorem key_str {d : D} {k : Key} (h : d.key = some k) : ∃ x, k = .inr x := by
  cases d <;> simp [D.key] at h <;> exact ⟨_, h.symm⟩
theorem key_of {d : D} {k : Key} (h : d.key = some k) : d = keyD k := by
  cases d <;> simp [D.key] at h <;> subst h <;> rfl
theorem dget_key {k : Key} : ∀ {kk : List Key} {us : List V}, kk.length = us.length → dget (kk.map keyD) us (keyD k) = valV (kk.zip us) k
  | [], [], _ => rfl
  | l :: kk, u :: us, h => by
    rw [List.map_cons, dget, key_eqv, List.zip_cons_cons]
    by_cases q : l = k
    · rw [valV_pos (by exact q)]; simp [q]
    · rw [valV_neg (by exact q)]; simp only [decide_eq_true_eq, q, if_false]; exact dget_key (by simpa using h)
  | [], _ :: _, h => by simp at h
  | _ :: _, [], h => by simp at h
theorem keyV {g : Gv} {F : Hp} {k : Key} {v : V} (r : RepV g F (keyD k) v) : v = kV k := by
  cases k <;> (rw [keyD, RepV] at r; exact r)
theorem dget_zs {x : Str} : ∀ (zs : List (Str × V)), dget (zs.map fun z => D.str z.1) (zs.map fun z => z.2) (.str x) = zs.lookup x
  | [] => rfl
  | z :: zs => by
    rw [List.map_cons, List.map_cons, dget, D.eqv, List.lookup_cons]
    by_cases q : z.1 = x
    · subst q; simp
    · have q1 : (z.1 == x) = false := beq_eq_false_iff_ne.mpr q
      have q2 : (x == z.1) = false := beq_eq_false_iff_ne.mpr (Ne.symm q)
      rw [q1, q2]
      simpa using dget_zs zs

/-- in, everywhere -/
def inE (a b : O) : Option Bool := match b.asD with
  | some (true, ks, os) => if nkOk (fz a) = true then some (ks.any fun k => k.eqv (fz a)) else none
  | some (false, ks, os) => if (fz a).key.isSome = true then some (ks.any fun k => k.eqv (fz a)) else none
  | none => inC a b
def ninE (a b : O) : Option Bool := (inE a b).map (!·)
def idxE (a b : O) : Option O := match a.asD with
  | some (true, ks, os) => if nkOk (fz b) = true then itV (dget ks os (fz b)) else none
  | some (false, ks, os) => if (fz b).key.isSome = true then itV (dget ks os (fz b)) else none
  | none => idxG a b
section
variable {X : Cx} {ca : Ca}
theorem val_of_fz {g : Gv} {H F : Hp} {o : O} {v : V} {S : Addr → Prop} {ds : List D} (h : fz o = .tup ds) (r : RepO g H F o v S) : RepV g F (.tup ds) v := by
  cases o with
  | val d => rw [fz] at h; subst h; rw [RepO] at r; exact r
  | lst _ => rw [fz] at h; cases h
  | dct _ _ _ => rw [fz] at h; cases h
  | ins _ _ _ => rw [fz] at h; cases h
theorem key_of_fz {g : Gv} {H F : Hp} {o : O} {v : V} {S : Addr → Prop} {k : Key} (h : (fz o).key = some k) (r : RepO g H F o v S) : fz o = keyD k ∧ v = kV k := by
  have e := key_of h
  refine ⟨e, ?_⟩
  cases o with
  | val d => rw [fz] at e; rw [RepO, e] at r; exact keyV r
  | lst _ => rw [fz] at e; cases k <;> cases e
  | dct _ _ _ => rw [fz] at e; cases k <;> cases e
  | ins _ _ _ => rw [fz] at e; cases k <;> cases e
theorem RelO.isSome {o : Option V} {u : Option Value} (r : RelO o u) : o.isSome = u.isSome := r.isSome_eq
theorem op_inE (hu : X.A.units + 65 < cLine) : OpR X (compareOp .In) (rC (gv X ca) inE) := by
  intro pins s σ H x y v u Q I rx ry ⟨F, oa, ob, S1, S2, b, le, ra, rb, e, q⟩
  unfold inE at e
  split at e
  · rename_i ks os hd
    split at e
    · rename_i hk
      cases e
      obtain ⟨ds, k, h1, h2, h3⟩ := nkOk_is hk
      obtain ⟨d, xs, rfl, nk, hH, S', ro⟩ := asD_true le rb hd
      have rv := val_of_fz h1 ra
      have ks2 := nk_is I le _ k x v (h1 ▸ h2) rv rx
      rw [RepV] at rv
      obtain ⟨a, vs, rfl, _⟩ := rv
      cases rx; cases ry
      obtain ⟨z, lo, ys, pr, dd⟩ := dN_of I le nk hH
      refine wpAny_in_heap (knd := nestedKind X.prog X.w) (by show X.A.units + 1 + 8 < cLine; omega) ⟨ks2, h3⟩ lo dd ?_
      have rel := dget_at h2 nk.nk pr
      have e2 := RelO.isSome rel
      rw [Option.isSome_map, ← dany (vs := xs.map fun x => x.2.2) (by have := nk.rep.length; simpa using this)] at e2
      rw [e2] at q
      exact ⟨.bl _, H, I.tok _, rfl, q⟩
    · cases e
  · rename_i ks os hd
    split at e
    · rename_i hk
      cases e
      obtain ⟨k, hk⟩ := Option.isSome_iff_exists.mp hk
      obtain ⟨e1, rfl⟩ := key_of_fz hk ra
      obtain ⟨d, us, rfl, hH, S', ro⟩ := asD_false le rb hd
      rw [e1] at q
      rcases hH with ⟨kk, rfl, nd, hl, hH⟩ | ⟨es, n, zs, kd, rfl, rfl, hz⟩
      · rw [dany (vs := us) (by simp [hl]), dget_key hl] at q
        cases ry
        exact d_in (by omega) I (DGet.k hH) rx fun s' I' => ⟨.bl _, H, I', rfl, q⟩
      · cases k with
        | inl i => obtain ⟨x, hx⟩ := key_str hk; cases hx
        | inr z =>
          obtain ⟨r, hr, rel⟩ := hz z
          rw [keyD, dany (vs := zs.map fun z => z.2) (by simp), dget_zs, RelO.isSome rel] at q
          exact op_in_kd kd pins s σ H _ _ v u Q I rx ry ⟨z, r, rfl, rfl, hr, q⟩
    · cases e
  · exact op_inC hu pins s σ H x y v u Q I rx ry ⟨F, oa, ob, S1, S2, b, le, ra, rb, e, q⟩
end
end PF

set_option Elab.async false
set_option linter.all false
set_option maxRecDepth 100000
set_option maxHeartbeats 2000000
namespace PF
open PySem PySem.Spec PyProof.Rows L2

/-! ### o[k] = v -/
def putN : List (NestedKey × Addr × V) → NestedKey → Addr → V → List (NestedKey × Addr × V)
  | [], k, b, v => [(k, b, v)]
  | x :: xs, k, b, v => if x.1 = k then (x.1, x.2.1, v) :: xs else x :: putN xs k b v
theorem putAt_id {k : NestedKey} {u : Value} : ∀ {ys : List (NestedKey × Addr × Value)}, (∀ y ∈ ys, y.1 ≠ k) → ys.map (putAt k u) = ys
  | [], _ => rfl
  | y :: ys, h => by
    rw [List.map_cons, putAt_id fun z hz => h z (by simp [hz])]
    unfold putAt
    rw [if_neg (h y (by simp))]
theorem storedH_cons {k : NestedKey} {b : Addr} {u : Value} {y : NestedKey × Addr × Value} {ys : List (NestedKey × Addr × Value)} (n : ((y :: ys).map (·.1)).Nodup) : storedH (y :: ys) k b u = if y.1 = k then (y.1, y.2.1, u) :: ys else y :: storedH ys k b u := by
  rw [List.map_cons, List.nodup_cons] at n
  unfold storedH
  by_cases q : y.1 = k
  · have e : atKey (y :: ys) k = some y.2 := by simp [atKey, List.find?_cons, q]
    rw [e, if_pos q, Option.isSome_some, if_pos rfl, List.map_cons, putAt_id fun z hz e2 => n.1 (by rw [q, ← e2]; exact List.mem_map_of_mem hz)]
    unfold putAt
    rw [if_pos q]
  · have e : atKey (y :: ys) k = atKey ys k := by simp [atKey, List.find?_cons, q]
    rw [e, if_neg q]
    have e2 : putAt k u y = y := by unfold putAt; rw [if_neg q]
    cases h : (atKey ys k).isSome <;> simp [e2]
theorem putN_rel {k : NestedKey} {b : Addr} {v : V} {u : Value} (rv : RelV v u) : ∀ {xs : List (NestedKey × Addr × V)} {ys : List (NestedKey × Addr × Value)}, Paired NRel xs ys → (ys.map (·.1)).Nodup → Paired NRel (putN xs k b v) (storedH ys k b u)
  | [], [], .nil, _ => .cons ⟨rfl, rfl, rv⟩ .nil
  | x :: xs, y :: ys, .cons r t, n => by
    have ih := putN_rel rv (k := k) (b := b) t (List.nodup_cons.mp (by simpa using n)).2
    rw [storedH_cons n, putN]
    obtain ⟨e1, e2, e3⟩ := r
    by_cases q : x.1 = k
    · rw [if_pos q, if_pos (by rw [← e1]; exact q)]
      exact .cons ⟨e1, e2, rv⟩ t
    · rw [if_neg q, if_neg (by rw [← e1]; exact q)]
      exact .cons ⟨e1, e2, e3⟩ ih
theorem putN_len (k : NestedKey) (b : Addr) (v : V) : ∀ xs : List (NestedKey × Addr × V), (putN xs k b v).length ≤ xs.length + 1
  | [] => by simp [putN]
  | x :: xs => by
    have := putN_len k b v xs
    rw [putN]
    split <;> simp <;> omega
theorem NKs.put {g : Gv} {F : Hp} {x : D} {k : NestedKey} {b : Addr} {v : V} (hx : toNk x = some k) (dk : k.depth ≤ 8) (rx : RepV g F x (.ref b)) : ∀ {ks : List D} {xs : List (NestedKey × Addr × V)}, NKs g F ks xs → NKs g F (dputK ks x) (putN xs k b v)
  | [], [], _ => ⟨by rw [dputK, putN, List.map_cons, List.map_nil, RepVs]; exact ⟨_, _, rfl, rx, by rw [RepVs]⟩, by simp [dputK, putN, hx], by simp [putN, dk]⟩
  | _ :: _, [], n => by have := n.nk; simp at this
  | [], _ :: _, n => by have := n.nk; simp at this
  | l :: ks, z :: xs, n => by
    have e := n.nk
    simp only [List.map_cons, List.cons.injEq] at e
    have rp := n.rep
    rw [List.map_cons, RepVs] at rp
    obtain ⟨w, ws, ev, r1, r2⟩ := rp
    cases ev
    have ih := NKs.put (v := v) hx dk rx (ks := ks) (xs := xs) ⟨r2, e.2, fun y hy => n.dep y (by simp [hy])⟩
    have q := eqv_nk l x z.1 k e.1 hx
    rw [dputK, putN, q]
    by_cases c : z.1 = k
    · rw [if_pos c, if_pos (by simp [c])]
      refine ⟨n.rep, n.nk, fun y hy => ?_⟩
      rcases List.mem_cons.mp hy with rfl | hy
      · exact n.dep z (by simp)
      · exact n.dep y (by simp [hy])
    · rw [if_neg c, if_neg (by simp [c])]
      refine ⟨?_, ?_, fun y hy => ?_⟩
      · rw [List.map_cons, RepVs]; exact ⟨_, _, rfl, r1, ih.rep⟩
      · rw [List.map_cons, List.map_cons, ih.nk, e.1]
      · rcases List.mem_cons.mp hy with rfl | hy
        · exact n.dep y (by simp)
        · exact ih.dep y hy
theorem putN_vals {x : D} {k : NestedKey} {b : Addr} {v : V} (hx : toNk x = some k) : ∀ {ks : List D} {xs : List (NestedKey × Addr × V)}, ks.map toNk = xs.map (fun x => some x.1) → (putN xs k b v).map (fun x => x.2.2) = dputV ks (xs.map fun x => x.2.2) x v
  | [], [], _ => by simp [putN, dputV]
  | _ :: _, [], n => by simp at n
  | [], _ :: _, n => by simp at n
  | l :: ks, z :: xs, n => by
    simp only [List.map_cons, List.cons.injEq] at n
    rw [putN, List.map_cons, dputV, eqv_nk l x z.1 k n.1 hx]
    by_cases c : z.1 = k
    · rw [if_pos c, if_pos (by simp [c])]; rfl
    · rw [if_neg c, if_neg (by simp [c]), List.map_cons, putN_vals hx n.2]
section
variable {g : Gv} {H F : Hp}
theorem RepOs.dput {x : D} {o : O} {v : V} : ∀ {ks : List D} {os : List O} {vs : List V} {S T : Addr → Prop}, os.length = ks.length → RepOs g H F os vs S → RepO g H F o v T → (∀ b, S b → T b → False) → RepOs g H F (dputV ks os x o) (dputV ks vs x v) (fun b => S b ∨ T b)
  | [], [], vs, S, T, hl, r, ro, d => by
    rw [RepOs] at r; subst r
    exact RepOs.snoc (os := []) (vs := []) (by rw [RepOs]) ro d
  | [], _ :: _, vs, S, T, hl, r, ro, d => by simp at hl
  | _ :: _, [], vs, S, T, hl, r, ro, d => by simp at hl
  | k :: ks, y :: os, vs, S, T, hl, r, ro, d => by
    rw [RepOs] at r
    obtain ⟨w, ws, S1, S2, rfl, sp, r1, r2⟩ := r
    rw [dputV, dputV]
    by_cases q : k.eqv x = true
    · rw [if_pos q, if_pos q, RepOs]
      exact ⟨v, ws, T, S2, rfl, ⟨fun b h => .inr h, fun b h => .inl (sp.r b h), fun b h1 h2 => d b (sp.r b h2) h1⟩, ro, r2⟩
    · rw [if_neg q, if_neg q, RepOs]
      have ih := RepOs.dput (x := x) (o := o) (v := v) (by simpa using hl) r2 ro fun b h1 h2 => d b (sp.r b h1) h2
      exact ⟨w, _, S1, fun b => S2 b ∨ T b, rfl, ⟨fun b h => .inl (sp.l b h), fun b h => h.elim (fun h => .inl (sp.r b h)) .inr, fun b h1 h2 => h2.elim (sp.d b h1) (d b (sp.l b h1))⟩, r1, ih⟩
theorem RepOs.set {o : O} {v : V} : ∀ {os : List O} {vs : List V} {S T : Addr → Prop} (i : Nat), RepOs g H F os vs S → RepO g H F o v T → (∀ b, S b → T b → False) → RepOs g H F (os.set i o) (vs.set i v) (fun b => S b ∨ T b)
  | [], vs, S, T, i, r, ro, d => by
    rw [RepOs] at r; subst r
    rw [List.set_nil, List.set_nil, RepOs]
  | y :: os, vs, S, T, 0, r, ro, d => by
    rw [RepOs] at r
    obtain ⟨w, ws, S1, S2, rfl, sp, r1, r2⟩ := r
    rw [List.set_cons_zero, List.set_cons_zero, RepOs]
    exact ⟨v, ws, T, S2, rfl, ⟨fun b h => .inr h, fun b h => .inl (sp.r b h), fun b h1 h2 => d b (sp.r b h2) h1⟩, ro, r2⟩
  | y :: os, vs, S, T, i + 1, r, ro, d => by
    rw [RepOs] at r
    obtain ⟨w, ws, S1, S2, rfl, sp, r1, r2⟩ := r
    rw [List.set_cons_succ, List.set_cons_succ, RepOs]
    have ih := RepOs.set (o := o) (v := v) i r2 ro fun b h1 h2 => d b (sp.r b h1) h2
    exact ⟨w, _, S1, fun b => S2 b ∨ T b, rfl, ⟨fun b h => .inl (sp.l b h), fun b h => h.elim (fun h => .inl (sp.r b h)) .inr, fun b h1 h2 => h2.elim (sp.d b h1) (d b (sp.l b h1))⟩, r1, ih⟩
end
def rSetN (g : Gv) : V → V → V → Hp → (Hp → Prop) → Prop := fun o i v H Q => ∃ F a xs ks d k b, Le F H ∧ o = .ref a ∧ i = .ref b ∧ H a = some (dTN g a xs) ∧ xs.length < sizeLine ∧ NKs g F ks xs ∧ RepV g F d (.ref b) ∧ toNk d = some k ∧ k.depth ≤ 8 ∧ Q (upd H a (dTN g a (putN xs k b v)))
section
variable {X : Cx} {ca : Ca}
theorem set_N (hu : X.A.units + 65 < cLine) : PSet X (rSetN (gv X ca)) := by
  intro pins s σ H o i v ov iv u Q I ro ri rv ⟨F, a, xs, ks, d, k, b, le, e1, e2, hH, hz, nk, rd, hk, dk, q⟩
  subst e1 e2
  cases ro; cases ri
  obtain ⟨z, lo, ys, pr, dd⟩ := dN_of I le nk hH
  have hz2 : ys.length ≤ sizeLine := by rw [← Paired.length pr]; exact z
  obtain ⟨_, _, _, _, _, _, _, _, hn⟩ := id dd
  refine wpAny_setItem_heap (knd := nestedKind X.prog X.w) (hsz := hz2) (by show X.A.units + 1 + 8 < cLine; omega) ⟨nk_is I le d k _ _ hk rd rfl, dk⟩ dd fun h' dd' hs => ?_
  obtain ⟨q1, es, ep, hq, h2, h3, h4, h5, h6⟩ := id dd'
  refine ⟨_, d_write I (by rw [hH]; exact True.intro) hs ⟨q1, hq⟩ (dN_new ?_ lo (putN_rel rv pr hn) dd'), q⟩
  have := putN_len k b v xs
  omega
theorem set_L : PSet X rSetL := set_list
end
/-- what a store makes of a thing -/
def stoG : O → O → O → Option O
  | .lst os, .val (.int n), v => (ixN os.length n).map fun j => .lst (os.set j v)
  | .dct true ks os, .val k, v => if nkOk k = true ∧ ks.length ≤ lim ∧ os.length = ks.length then some (.dct true (dputK ks k) (dputV ks os k v)) else none
  | _, _, _ => none
/-- a slot's thing changed in place -/
def upM (i : Nat) (f : O → Option O) : M Unit := fun ρ => match ρ[i]? with
  | some (some o) => (match f o with
    | some o' => some (.ok (), ρ.set i (some o'))
    | none => none)
  | _ => none
def subT (i : Nat) (fk : M O) : O → M Unit := fun v => (pk i).bind fun _ => fk.bind fun k => upM i fun o => stoG o k v
section
variable {g : Gv} {W : WX} {pn : List Nat} {α β : Type}
theorem upM_run {i : Nat} {f : O → Option O} {ρ ρ' : Sls} {r : Rz Unit} (h : upM i f ρ = some (r, ρ')) : ∃ o o', ρ[i]? = some (some o) ∧ f o = some o' ∧ r = .ok () ∧ ρ' = ρ.set i (some o') := by
  unfold upM at h
  split at h
  · rename_i o q
    split at h
    · rename_i o' q2; cases h; exact ⟨o, o', q, q2, rfl, rfl⟩
    · cases h
  · cases h
theorem Rn.up {i : Nat} {f : O → Option O} {k : Unit → M β} {σ : L2.St} {H F Gx : Hp} {ρ : Sls} {R : β → Hp → Hp → Sls → Prop} (h : Rn g W ((upM i f).bind k) σ H F Gx ρ R) : ∃ o o', ρ[i]? = some (some o) ∧ f o = some o' ∧ ∀ H', Rn g W (k ()) σ H' F Gx (ρ.set i (some o')) R := by
  obtain ⟨r, ρ', e⟩ := h.run
  cases q : upM i f ρ with
  | none => unfold M.bind at e; rw [q] at e; cases e
  | some p =>
    obtain ⟨o, o', h1, h2, h3, h4⟩ := upM_run (r := p.1) (ρ' := p.2) q
    exact ⟨o, o', h1, h2, fun H' => h.bind.ok (a := ()) (ρ' := ρ.set i (some o')) (by rw [q, ← h3, ← h4]) H' F (Le.refl F)⟩
theorem Rs.up {i : Nat} {f : O → Option O} {σ : L2.St} {F Gx : Hp} {ρ : Sls} {R : Unit → Hp → Hp → L2.St → Sls → Prop} (h : Rs g W pn (upM i f) σ F Gx ρ R) : ∃ o o', ρ[i]? = some (some o) ∧ f o = some o' ∧ ∀ H' F' σ', Le F F' → Pin pn σ σ' → R () H' F' σ' (ρ.set i (some o')) := by
  obtain ⟨r, ρ', e⟩ := h.run
  obtain ⟨o, o', h1, h2, h3, h4⟩ := upM_run e
  exact ⟨o, o', h1, h2, h.ok (by rw [e, h3, h4])⟩
theorem Rs.pk {i : Nat} {k : O → M β} {σ : L2.St} {F Gx : Hp} {ρ : Sls} {R : β → Hp → Hp → L2.St → Sls → Prop} (h : Rs g W pn ((PF.pk i).bind k) σ F Gx ρ R) : ∃ o, ρ[i]? = some (some o) ∧ Rs g W pn (k o) σ F Gx ρ R := by
  obtain ⟨r, ρ', e⟩ := h.run
  cases q : PF.pk i ρ with
  | none => unfold M.bind at e; rw [q] at e; cases e
  | some p =>
    obtain ⟨o, h1, h2, h3⟩ := pk_some (r := p.1) (ρ' := p.2) q
    exact ⟨o, h1, h.bind.ok (a := o) (ρ' := ρ) (by rw [q, ← h2, ← h3]) (fun _ => none) F σ (Le.refl F) (Pin.refl σ)⟩
end
section
variable {g : Gv} {H F Gx : Hp} {σ : L2.St} {ρ : Sls} {L A : List (V × O)}
/-- how a slot's own thing may be written -/
theorem StG.wr {i : Nat} {o : O} {a : Addr} (st : StG g H F Gx σ ρ (A ++ L)) (hi : ρ[i]? = some (some o)) (hv : σ[i]? = some (some (.ref a))) :
    ∃ S1 SA, RepO g H F o (.ref a) S1 ∧ RepL g H F A SA ∧ (∀ b, S1 b → SA b → False) ∧ ∀ (o' : O) (u : HO), S1 a → RepO g (upd H a u) F o' (.ref a) (fun b => S1 b ∨ SA b) → StG g (upd H a u) F Gx σ (ρ.set i (some o')) L := by
  obtain ⟨v, hv', st2⟩ := st.take hi
  rw [hv] at hv'; cases hv'
  have gd : Good g H F Gx ((.ref a, o) :: (A ++ (L ++ slL σ (ρ.set i none)))) := by
    have z := st2.gd
    rw [List.cons_append, List.append_assoc] at z
    exact z
  obtain ⟨S, hT, hF, hG, hFG, hS, S1, S2, sp, r1, r2⟩ := gd.ex
  obtain ⟨SA, SL, sp2, rA, rL⟩ := RepL.split g A _ S2 r2
  refine ⟨S1, SA, r1, rA, fun b h1 h2 => sp.d b h1 (sp2.l b h2), fun o' u ha ro => ?_⟩
  obtain ⟨nF, nG, _⟩ := hS a (sp.l a ha)
  have st3 : StG g (upd H a u) F Gx σ (ρ.set i none) ((.ref a, o') :: L) := ⟨st2.wf, st2.len, S, hT.wr (sp.l a ha), fun b o e => by
      rw [upd_ne (fun q => by subst q; rw [nF] at e; cases e)]; exact hF b o e, fun b o e => by
      rw [upd_ne (fun q => by subst q; rw [nG] at e; cases e)]; exact hG b o e, hFG, fun b hb => by
      obtain ⟨x, y, z⟩ := hS b hb
      refine ⟨x, y, ?_⟩
      by_cases q : b = a
      · subst q; exact ⟨_, upd_same⟩
      · rw [upd_ne q]; exact z, fun b => S1 b ∨ SA b, SL, ⟨fun b hb => hb.elim (sp.l b) fun hb => sp.r b (sp2.l b hb), fun b hb => sp.r b (sp2.r b hb), fun b h1 h2 => h1.elim (fun h1 => sp.d b h1 (sp2.r b h2)) fun h1 => sp2.d b h1 h2⟩,
      ro, RepL.frame g (Le.refl F) _ SL SL (fun _ h => h) (fun b hb => upd_ne (fun e => sp.d a ha (by rw [← e]; exact sp2.r b hb))) rL⟩
  have hl := st.lt hi
  have st4 := st3.putback (i := i) hv (by simp [hl])
  rw [List.set_set] at st4
  exact st4
/-- parts, behind a write at their holder -/
theorem RepOs.wrote {os : List O} {vs : List V} {S1 SA : Addr → Prop} {a : Addr} {u : HO} (r : RepOs g H F os vs (fun b => (S1 b ∧ b ≠ a) ∨ SA b)) (ha : S1 a) (d : ∀ b, S1 b → SA b → False) : RepOs g (upd H a u) F os vs (fun b => (S1 b ∨ SA b) ∧ b ≠ a) := by
  refine RepOs.frame g (Le.refl F) _ _ _ _ (fun b hb => ?_) (fun b hb => upd_ne ?_) r
  · rcases hb with hb | hb
    · exact ⟨.inl hb.1, hb.2⟩
    · exact ⟨.inr hb, fun e => d a ha (by rw [← e]; exact hb)⟩
  · rcases hb with hb | hb
    · exact hb.2
    · exact fun e => d a ha (by rw [← e]; exact hb)
theorem RepL.one {v : V} {o : O} {S : Addr → Prop} (r : RepL g H F [(v, o)] S) : RepO g H F o v S := by
  obtain ⟨T, T2, sp, ro, _⟩ := r
  exact RepO.sup g (fun b hb => sp.l b hb) ro
end
section
variable {W : WX} {pn : List Nat} {X : Cx} {ca : Ca} {a b : Expr} {fk : M O} {pos : Pos}
theorem PSet.or {t t' : TSet} (h : PSet X t) (h' : PSet X t') : PSet X fun o i v H Q => t o i v H Q ∨ t' o i v H Q := by
  intro pins s σ H o i v ov iv u Q I ro ri rv q
  rcases q with q | q
  · exact h pins s σ H o i v ov iv u Q I ro ri rv q
  · exact h' pins s σ H o i v ov iv u Q I ro ri rv q
theorem RepO.lt_of {g : Gv} {H F : Hp} {o : O} {v : V} {S : Addr → Prop} (r : RepO g H F o v S) {ds : List D} (h : o = .val (.tup ds)) : ∃ b, v = .ref b := by
  subst h
  rw [RepO, RepV] at r
  obtain ⟨a, vs, e, _⟩ := r
  exact ⟨a, e⟩
theorem sto_run {g : Gv} {σ : L2.St} {H F Gx : Hp} {ρ : Sls} {i : Nat} {o o' k v : O} {x kv vv : V} {Q : Hp → Prop} (st : StG g H F Gx σ ρ [(kv, k), (vv, v)]) (hi : ρ[i]? = some (some o)) (hx : σ[i]? = some (some x)) (e : stoG o k v = some o')
    (q : ∀ H', StG g H' F Gx σ (ρ.set i (some o')) [] → Q H') : rSetL x kv vv H Q ∨ rSetN g x kv vv H Q := by
  obtain ⟨x', S, hx', rx⟩ := st.peek hi
  rw [hx] at hx'; cases hx'
  obtain ⟨Sk, rk⟩ := Good.view (B := [(vv, v)] ++ slL σ ρ) st.gd
  unfold stoG at e
  split at e
  · rename_i os n
    obtain ⟨j, hj, rfl⟩ := Option.map_eq_some_iff.mp e
    cases rk.intV
    rw [RepO] at rx
    obtain ⟨a, vs, rfl, sa, hH, rs⟩ := rx
    obtain ⟨S1, SA, r1, rA, d, w⟩ := StG.wr (A := [(vv, v)]) (L := []) st.drop1 hi hx
    rw [RepO] at r1
    obtain ⟨a', vs, e', sa', hH, rs⟩ := r1
    cases e'
    refine .inl ⟨a, vs, n, j, rfl, rfl, hH, by rw [rs.length]; exact hj, q _ (w _ _ sa' ?_)⟩
    rw [RepO]
    exact ⟨a, _, rfl, .inl sa', upd_same, RepOs.wrote (RepOs.set j rs rA.one fun b h1 h2 => d b h1.1 h2) sa' d⟩
  · rename_i ks os kd
    split at e
    · rename_i hk
      obtain ⟨hk1, hk2, hk3⟩ := hk
      cases e
      obtain ⟨ds, kk, rfl, h2, h3⟩ := nkOk_is hk1
      rw [RepO] at rk
      rw [RepO] at rx
      obtain ⟨a, xs, rfl, sa, e2, e3, e4, e5, rs⟩ := rx
      obtain ⟨S1, SA, r1, rA, d, w⟩ := StG.wr (A := [(vv, v)]) (L := []) st.drop1 hi hx
      rw [RepO] at r1
      obtain ⟨a', xs, e', sa', e2, e3, e4, e5, rs⟩ := r1
      cases e'
      have rk' := rk
      rw [RepV] at rk'
      obtain ⟨b, _, rfl, _⟩ := rk'
      have hxs : xs.length = ks.length := by have := congrArg List.length e3; simpa using this.symm
      refine .inr ⟨F, a, xs, ks, .tup ds, kk, b, st.le, rfl, rfl, e5, by rw [hxs]; exact lim_lt hk2, ⟨e2, e3, e4⟩, rk, h2, h3, q _ (w _ _ sa' ?_)⟩
      rw [RepO]
      have nk' := NKs.put (v := vv) h2 h3 rk (ks := ks) (xs := xs) ⟨e2, e3, e4⟩
      refine ⟨a, putN xs kk b vv, rfl, .inl sa', nk'.rep, nk'.nk, nk'.dep, upd_same, ?_⟩
      rw [putN_vals h2 e3]
      exact RepOs.wrote (RepOs.dput hk3 rs rA.one fun b h1 h2 => d b h1.1 h2) sa' d
    · cases e
  · cases e
theorem g_sub (i : Nat) (hu : X.A.units + 65 < cLine) (ha : PE X a (tVar i)) (hb : PE X b (T (gv X ca) W fk))
    (hass : ∀ v, assign (.Subscript a b pos) X.env v = (do
      let ov ← holding [v] (eval a X.env)
      let iv ← holding [v, ov] (eval b X.env)
      standAt pos
      holding [v, ov, iv] (setItem ov iv v)
      release [v, ov, iv] []) := by intro _; rfl) : PG X (.Subscript a b pos) (Tg (gv X ca) W pn (subT i fk)) :=
  PG.imp (pg_sub ha hb (PSet.or set_L (set_N (ca := ca) hu)) hass) fun v σ H Q ⟨F, Gx, ρ, o, st, r⟩ => by
    obtain ⟨o0, h0, r⟩ := r.pk
    obtain ⟨x, hx⟩ := st.wf i o0 h0
    obtain ⟨Gx', st1, back⟩ := st.aside
    refine ⟨x, hx, F, Gx', ρ, st1, (Rn.aside (r.expr (H := H)) fun H' F' ρ' le q => (back H' F' ρ' [] le q).drop1).mono fun k H1 F1 ρ1 le1 r1 kv st2 => ?_⟩
    have st3 := (back H1 F1 ρ1 _ le1 st2).perm (L' := [(kv, k), (v, o)]) (.swap _ _ _)
    obtain ⟨o1, o2, h1, h2, r2⟩ := r1.up
    exact sto_run st3 h1 hx h2 fun H' st4 => r2 H' F1 σ (Le.refl _) (Pin.refl σ) st4
end
end PF

set_option Elab.async false
set_option linter.all false
set_option maxRecDepth 100000
set_option maxHeartbeats 2000000
namespace PF
open PySem PySem.Spec PyProof.Rows L2

section
variable {X : Cx} {ca : Ca}
theorem op_ninE (hu : X.A.units + 65 < cLine) : OpR X (compareOp .NotIn) (rC (gv X ca) ninE) := by
  intro pins s σ H x y v u Q I rx ry ⟨F, oa, ob, S1, S2, b, le, ra, rb, e, q⟩
  obtain ⟨c, e', eb⟩ := Option.map_eq_some_iff.mp (show (inE oa ob).map (!·) = some b from e)
  clear e
  subst eb
  have e := e'
  unfold inE at e
  split at e
  · rename_i ks os hd
    split at e
    · rename_i hk
      cases e
      obtain ⟨ds, k, h1, h2, h3⟩ := nkOk_is hk
      obtain ⟨d, xs, rfl, nk, hH, S', ro⟩ := asD_true le rb hd
      have rv := val_of_fz h1 ra
      have ks2 := nk_is I le _ k x v (h1 ▸ h2) rv rx
      rw [RepV] at rv
      obtain ⟨a, vs, rfl, _⟩ := rv
      cases rx; cases ry
      obtain ⟨z, lo, ys, pr, dd⟩ := dN_of I le nk hH
      refine wpAny_notIn_heap (knd := nestedKind X.prog X.w) (by show X.A.units + 1 + 8 < cLine; omega) ⟨ks2, h3⟩ lo dd ?_
      have rel := dget_at h2 nk.nk pr
      have e2 := RelO.isSome rel
      rw [Option.isSome_map, ← dany (vs := xs.map fun x => x.2.2) (by have := nk.rep.length; simpa using this)] at e2
      rw [e2] at q
      exact ⟨.bl _, H, I.tok _, rfl, q⟩
    · cases e
  · rename_i ks os hd
    split at e
    · rename_i hk
      cases e
      obtain ⟨k, hk⟩ := Option.isSome_iff_exists.mp hk
      obtain ⟨e1, rfl⟩ := key_of_fz hk ra
      obtain ⟨d, us, rfl, hH, S', ro⟩ := asD_false le rb hd
      rw [e1] at q
      rcases hH with ⟨kk, rfl, nd, hl, hH⟩ | ⟨es, n, zs, kd, rfl, rfl, hz⟩
      · rw [dany (vs := us) (by simp [hl]), dget_key hl] at q
        cases ry
        exact d_notIn (by omega) I (DGet.k hH) rx fun s' I' => ⟨.bl _, H, I', rfl, q⟩
      · cases k with
        | inl i => obtain ⟨x, hx⟩ := key_str hk; cases hx
        | inr z =>
          obtain ⟨r, hr, rel⟩ := hz z
          rw [keyD, dany (vs := zs.map fun z => z.2) (by simp), dget_zs, RelO.isSome rel] at q
          exact op_notIn_kd kd pins s σ H _ _ v u Q I rx ry ⟨z, r, rfl, rfl, hr, q⟩
    · cases e
  · exact op_ninC hu pins s σ H x y v u Q I rx ry ⟨F, oa, ob, S1, S2, !c, le, ra, rb, by unfold ninC; rw [e]; rfl, q⟩
theorem itV_some {o : Option O} {res : O} (h : itV o = some res) : ∃ d, o = some (.val d) ∧ res = .val d := by
  unfold itV at h
  split at h
  · cases h; exact ⟨_, rfl, rfl⟩
  · cases h
theorem ix_idxE (hu : X.A.units + 65 < cLine) : IxR X (rB (gv X ca) idxE) := by
  intro value slice pins s σ H x y v u Q I rx ry ⟨F, Gx, σ', ρ, oa, ob, S1, S2, res, st, ra, rb, e, yd⟩ hs
  unfold idxE at e
  split at e
  · rename_i ks os hd
    split at e
    · rename_i hk
      obtain ⟨dr, e', rfl⟩ := itV_some e
      obtain ⟨ds, k, h1, h2, h3⟩ := nkOk_is hk
      obtain ⟨d, xs, rfl, nk, hH, S', ro⟩ := asD_true st.le ra hd
      have rv := val_of_fz h1 rb
      have ks2 := nk_is I st.le _ k y u (h1 ▸ h2) rv ry
      rw [RepV] at rv
      obtain ⟨a, vs, rfl, _⟩ := rv
      cases rx; cases ry
      obtain ⟨z, lo, ys, pr, dd⟩ := dN_of I st.le nk hH
      have rel := dget_at h2 nk.nk pr
      rcases dget_os (x := fz ob) ro with ⟨o, w, S'', e1, e2, r2⟩ | ⟨e1, e2⟩
      · rw [e'] at e1; cases e1
        rw [e2] at rel
        cases q : atKey ys k with
        | none => rw [q] at rel; exact rel.elim
        | some p =>
          rw [q] at rel
          refine tail_any dd.typeIs slot_dict_getitem.lookup (wpAny_getItem_heap (knd := nestedKind X.prog X.w) (by show X.A.units + 1 + 8 < cLine; omega) ⟨ks2, h3⟩ dd q ?_) hs
          exact ⟨w, H, I.tok _, rel, yd.val st (by rw [RepO] at r2; exact r2)⟩
      · rw [e'] at e1; cases e1
    · cases e
  · rename_i ks os hd
    split at e
    · rename_i hk
      obtain ⟨dr, e', rfl⟩ := itV_some e
      obtain ⟨k, hk⟩ := Option.isSome_iff_exists.mp hk
      obtain ⟨e1, rfl⟩ := key_of_fz hk rb
      obtain ⟨d, us, rfl, hH, S', ro⟩ := asD_false st.le ra hd
      rw [e1] at e'
      rcases dget_os (x := keyD k) ro with ⟨o, w, S'', e1, e2, r2⟩ | ⟨e1, e2⟩
      · rw [e'] at e1; cases e1
        have r3 : RepV (gv X ca) F dr w := by rw [RepO] at r2; exact r2
        rcases hH with ⟨kk, rfl, nd, hl, hH⟩ | ⟨es, n, zs, kd, rfl, rfl, hz⟩
        · rw [dget_key hl] at e2
          cases rx
          have gt : DGet H d (kV k) (some w) := by rw [← e2]; exact DGet.k hH
          exact tail_any (dict_typeIs I gt) slot_dict_getitem.lookup (d_getItem (by omega) I gt ry fun w' s3 I3 rw' => ⟨w, H, I3, rw', yd.val st r3⟩) hs
        · cases k with
          | inl i => obtain ⟨x, hx⟩ := key_str hk; cases hx
          | inr z =>
            rw [keyD, dget_zs] at e2
            obtain ⟨r, hr, rel⟩ := hz z
            rw [e2] at rel
            cases r with
            | none => exact rel.elim
            | some u0 =>
              cases rx
              refine tail_any (kd_type kd I) slot_dict_getitem.lookup ?_ hs
              exact op_item_kd kd pins s σ H (.ref d) _ _ u Q I rfl ry ⟨z, u0, w, rfl, rfl, hr, rel, yd.val st r3⟩
      · rw [e'] at e1; cases e1
    · cases e
  · exact ix_idxG value slice pins s σ H x y v u Q I rx ry ⟨F, Gx, σ', ρ, oa, ob, S1, S2, res, st, ra, rb, e, yd⟩ hs
variable {W : WX} {a b : Expr} {ta tb : TE} {f : M (O × O)} {pos p2 : Pos}
theorem e_ix (hu : X.A.units + 65 < cLine) (p : Pr (gv X ca) W ta tb f) (ha : PE X a ta) (hb : PE X b tb) (hs : PlainIx b := by exact fun _ _ => rfl) : PE X (.Subscript a b pos) (T (gv X ca) W (binF idxE f)) :=
  PE.imp (pe_ix (ix_idxE hu) ha hb hs) fun σ H Q ⟨F, Gx, ρ, st, r⟩ => p σ H _ ⟨F, Gx, ρ, st, r.bind.mono fun p H' F' ρ' le r1 x y S1 S2 st' rx ry => by
    obtain ⟨res, e, q⟩ := r1.of
    exact ⟨F', Gx, σ, ρ', _, _, S1, S2, res, st', rx, ry, e, fun v H2 F2 le2 st2 => q H2 F2 le2 v st2⟩⟩
/-! ### {} -/
theorem dN_empty {P : Program} {w : World} {K : PySem.W.Frag} {H : Hp} (h : Heap) (hb : sysModules < h.objs.size) : ObjOk P w H (h.push { cls := .type "dict", data := .dict #[] }) h.objs.size (dTN ⟨P, w, K, ca⟩ h.objs.size []) :=
  dN_new (Nat.zero_le _) (beq_eq_false_iff_ne.mpr (Ne.symm (Nat.ne_of_lt hb))) .nil ⟨_, #[], 0, Heap.get?_push_size _ rfl, ⟨rfl, rfl, rfl⟩, rfl, rfl, fun _ h => (nomatch h), List.nodup_nil⟩
theorem e_dnew : PE X (.Dict [] [] pos) (T (gv X ca) W (M.pure (.dct true [] []))) := ⟨fun pins s σ H Q I ⟨F, Gx, ρ, st, r⟩ => by
  have hn := I.hok.fresh (Nat.le_refl s.heap.objs.size)
  refine wpAny_Dict_empty ⟨.ref s.heap.objs.size, _, I.laid (a := s.heap.objs.size) (o := dTN (gv X ca) s.heap.objs.size []) (t' := s.toks) (fun _ _ q => Heap.get?_push_of_some _ q) (Nat.le_refl _) (dN_empty s.heap I.big), rfl, r.pure _ F (Le.refl F) _ ⟨st.wf, st.len, Good.newO (L := slL σ ρ) st.gd hn fun S hS => ?_⟩⟩
  rw [RepO]
  exact ⟨_, [], rfl, hS, by rw [List.map_nil, RepVs], rfl, fun _ h => (nomatch h), upd_same, by rw [List.map_nil, RepOs]⟩⟩
end
end PF

set_option Elab.async false
set_option linter.all false
set_option maxRecDepth 100000
set_option maxHeartbeats 2000000
namespace PF
open PySem PySem.Spec PyProof.Rows L2

/-! ### built-in calls -/
theorem view1 {g : Gv} {H F : Hp} {o : O} {vs : List V} (h : ViewL g H F [o] vs) : ∃ v S, vs = [v] ∧ RepO g H F o v S := by
  obtain ⟨v, r, S, rfl, h1, rfl⟩ := h
  exact ⟨v, S, rfl, h1⟩
theorem view2 {g : Gv} {H F : Hp} {o p : O} {vs : List V} (h : ViewL g H F [o, p] vs) : ∃ v w S T, vs = [v, w] ∧ RepO g H F o v S ∧ RepO g H F p w T := by
  obtain ⟨v, r, S, rfl, h1, w, t, T, rfl, h2, rfl⟩ := h
  exact ⟨v, w, S, T, rfl, h1, h2⟩
def lenF : List O → Option O
  | [.val (.str z)] => if z.length ≤ lim then some (.val (.int z.length)) else none
  | [.val (.tup ds)] => some (.val (.int ds.length))
  | [.val (.scr ds)] => some (.val (.int ds.length))
  | [.val (.lst ds)] => some (.val (.int ds.length))
  | [.lst os] => some (.val (.int os.length))
  | _ => none
def D.tyS : D → Option String
  | .non => some "NoneType"
  | .bl _ => some "bool"
  | .int _ => some "int"
  | .str _ => some "str"
  | .tup _ => some "tuple"
  | .lst _ => some "list"
  | .scr _ => some "list"
  | _ => none
def O.tyS : O → Option String
  | .val d => d.tyS
  | .lst _ => some "list"
  | _ => none
def kitA (t : String) : List D → Option Bool
  | [] => some false
  | .ty c :: ds => match kitB t c, kitA t ds with
    | some a, some b => some (a || b)
    | _, _ => none
  | _ :: _ => none
def isiF : List O → Option O
  | [o, .val (.ty c)] => match o.tyS with
    | some t => (kitB t c).map fun b => .val (.bl b)
    | none => none
  | [o, .val (.tup ds)] => match o.tyS with
    | some t => (kitA t ds).map fun b => .val (.bl b)
    | none => none
  | _ => none
def tupF : List O → Option O
  | [o] => match o.dsT with
    | some ds => some (.val (.tup ds))
    | none => match o.dsL with
      | some ds => some (.val (.tup ds))
      | none => none
  | _ => none
def lstF : List O → Option O
  | [.val (.scr ns)] => some (.lst (ns.map fun n => .val (.int n)))
  | [o] => match o.dsT with
    | some ds => some (.lst (ds.map .val))
    | none => match o.dsL with
      | some ds => some (.lst (ds.map .val))
      | none => none
  | _ => none
def intF : List O → Option O
  | [.val (.int i)] => some (.val (.int i))
  | [.val (.bl k)] => some (.val (.int (if k then 1 else 0)))
  | _ => none
def absF : List O → Option O
  | [.val (.int i)] => some (.val (.int (if i < 0 then -i else i)))
  | _ => none
def max2F : List O → Option O
  | [.val (.int i), .val (.int j)] => some (.val (.int (if j > i then j else i)))
  | _ => none
def min2F : List O → Option O
  | [.val (.int i), .val (.int j)] => some (.val (.int (if j < i then j else i)))
  | _ => none
section
variable {g : Gv} {H F : Hp}
theorem tyT {K : PySem.W.Frag} {a : Addr} {vs : List V} (h : SqT K H a vs) : TyX K H (.ref a) (.type "tuple") := by
  rcases h with (h | ⟨o, h⟩) | ⟨o, its, n, h, c, _⟩
  · exact .base (.tup h)
  · exact .fTuple h
  · exact .kTuple h c
theorem tyL {K : PySem.W.Frag} {a : Addr} {vs : List V} (h : SqL K H a vs) : TyX K H (.ref a) (.type "list") := by
  rcases h with (h | ⟨o, h⟩) | ⟨o, its, n, h, c, _⟩
  · exact .base (.lst h)
  · exact .base (.frz h)
  · exact .kList h c
theorem ty_of {o : O} {v : V} {S : Addr → Prop} {t : String} (le : Le F H) (r : RepO g H F o v S) (h : o.tyS = some t) : TyX g.K H v (.type t) := by
  cases o with
  | val d =>
    rw [RepO] at r
    cases d with
    | non => cases h; rw [RepV] at r; subst r; exact .base .non
    | bl b => cases h; rw [RepV] at r; subst r; exact .base (.bl b)
    | int b => cases h; rw [RepV] at r; subst r; exact .base (.int b)
    | str b => cases h; rw [RepV] at r; subst r; exact .base (.str b)
    | tup ds => cases h; rw [RepV] at r; obtain ⟨a, vs, rfl, q, _⟩ := r; exact tyT (SqT.mono le q)
    | lst ds => cases h; rw [RepV] at r; obtain ⟨a, vs, rfl, q, _⟩ := r; exact .base (.lst (le _ _ q))
    | scr ds => cases h; rw [RepV] at r; obtain ⟨a, rfl, q⟩ := r; exact tyL (SqL.mono le q)
    | _ => cases h
  | lst os => cases h; rw [RepO] at r; obtain ⟨a, vs, rfl, _, q, _⟩ := r; exact .base (.lst q)
  | _ => cases h
theorem kitA_ok {K : PySem.W.Frag} {t : String} : ∀ {ds : List D} {vs : List V} {b : Bool}, RepVs g F ds vs → kitA t ds = some b → ∃ us, Paired ClsV vs us ∧ PySem.W.kitAny K (.type t) us = some b
  | [], vs, b, r, h => by
    rw [RepVs] at r; subst r
    cases h
    exact ⟨[], .nil, kitAny_nil⟩
  | .ty c :: ds, vs, b, r, h => by
    rw [RepVs] at r
    obtain ⟨v, w, rfl, r1, r2⟩ := r
    rw [RepV] at r1; subst r1
    rw [kitA] at h
    split at h
    · rename_i a b' q1 q2
      cases h
      obtain ⟨us, p, e⟩ := kitA_ok r2 q2
      exact ⟨.type c :: us, .cons (.ty c) p, kitAny_cons (kit_ty q1) (fun z => by rw [e, z]; rfl) fun z => by rw [z]; rfl⟩
    · cases h
  | .non :: _, vs, b, r, h => by cases h
  | .bl _ :: _, vs, b, r, h => by cases h
  | .int _ :: _, vs, b, r, h => by cases h
  | .str _ :: _, vs, b, r, h => by cases h
  | .tup _ :: _, vs, b, r, h => by cases h
  | .lst _ :: _, vs, b, r, h => by cases h
  | .dct _ _ _ :: _, vs, b, r, h => by cases h
  | .ins _ _ _ :: _, vs, b, r, h => by cases h
  | .scr _ :: _, vs, b, r, h => by cases h
end
section
variable {X : Cx} {ca : Ca}
theorem cb_len : CallR X (.builtin "len") (rF (gv X ca) lenF) := by
  intro pins s σ H xs us Q I rv ⟨F, Gx, σ', ρ, os, res, st, vw, e, yd⟩
  unfold lenF at e
  split at e
  · split at e
    · rename_i hz
      cases e
      obtain ⟨v, S, rfl, r⟩ := view1 vw
      cases r.strV
      exact call_len pins s σ H _ us Q I rv ⟨_, _, rfl, ⟨lim_le hz, rfl⟩, yd.val st repI⟩
    · cases e
  · cases e
    obtain ⟨v, S, rfl, r⟩ := view1 vw
    obtain ⟨a, vs, rfl, q, r⟩ := dsT_ok st.le r rfl
    exact call_len pins s σ H _ us Q I rv ⟨_, _, rfl, .inr ⟨vs, q, r.length.symm⟩, yd.val st repI⟩
  · cases e
    obtain ⟨v, S, rfl, r⟩ := view1 vw
    rw [RepO, RepV] at r
    obtain ⟨a, rfl, q⟩ := r
    exact call_len pins s σ H _ us Q I rv ⟨_, _, rfl, .inl ⟨_, SqL.mono st.le q, by rw [List.length_map]⟩, yd.val st repI⟩
  · cases e
    obtain ⟨v, S, rfl, r⟩ := view1 vw
    obtain ⟨a, vs, rfl, q, r⟩ := dsL_ok st.le r rfl
    exact call_len pins s σ H _ us Q I rv ⟨_, _, rfl, .inl ⟨_, SqL.of q, r.length.symm⟩, yd.val st repI⟩
  · cases e
    obtain ⟨v, S, rfl, r⟩ := view1 vw
    rw [RepO] at r
    obtain ⟨a, vs, rfl, sa, q, r⟩ := r
    exact call_len pins s σ H _ us Q I rv ⟨_, _, rfl, .inl ⟨_, SqL.of q, r.length.symm⟩, yd.val st repI⟩
  · cases e
theorem cb_isi : CallR X (.builtin "isinstance") (rF (gv X ca) isiF) := by
  intro pins s σ H xs us Q I rv ⟨F, Gx, σ', ρ, os, res, st, vw, e, yd⟩
  unfold isiF at e
  split at e
  · split at e
    · rename_i t ht
      obtain ⟨b, hb, rfl⟩ := Option.map_eq_some_iff.mp e
      obtain ⟨v, w, S, T', rfl, r1, r2⟩ := view2 vw
      rw [RepO, RepV] at r2
      subst r2
      exact call_isi pins s σ H _ us Q I rv ⟨v, _, _, _, b, rfl, .ty _, ty_of st.le r1 ht, kit_ty hb, yd.val st repB⟩
    · cases e
  · split at e
    · rename_i t ht
      obtain ⟨b, hb, rfl⟩ := Option.map_eq_some_iff.mp e
      obtain ⟨v, w, S, T', rfl, r1, r2⟩ := view2 vw
      obtain ⟨a, vs, rfl, q, r⟩ := dsT_ok st.le r2 rfl
      obtain ⟨cs, p, e2⟩ := kitA_ok r hb
      obtain ⟨u1, u2, rfl, x1, x2⟩ := vals2 rv
      cases (show u2 = Value.ref a from x2)
      obtain ⟨P, Z, p3, hx⟩ := kit_of I x1 (ty_of st.le r1 ht)
      obtain ⟨its, rv2, ⟨o, ho, hc, n, hd⟩, _⟩ := I.tuple q
      obtain ⟨oc, od, dt, sl⟩ := o
      simp only at hc hd
      subst hc hd
      have e3 := ClsV.all p rv2
      subst e3
      exact PySem.W.kia_tup Z I.kIn p3 ho e2 hx fun tk => ⟨.bl b, H, I.tok tk, rfl, yd.val st repB⟩
    · cases e
  · cases e
theorem cb_tuple : CallR X (.type "tuple") (rF (gv X ca) tupF) := by
  intro pins s σ H xs us Q I rv ⟨F, Gx, σ', ρ, os, res, st, vw, e, yd⟩
  unfold tupF at e
  split at e
  · rename_i o
    obtain ⟨v, S, rfl, r⟩ := view1 vw
    split at e
    · rename_i ds hd
      cases e
      obtain ⟨a, vs, rfl, q, r'⟩ := dsT_ok st.le r hd
      refine call_tuple_of pins s σ H _ us Q I rv ⟨a, vs, rfl, .inr ⟨q, ?_⟩⟩
      have : o = .val (.tup ds) := by
        unfold O.dsT at hd
        split at hd
        · cases hd; rfl
        · cases hd
      subst this
      rw [RepO] at r
      exact yd.val st r
    · split at e
      · rename_i ds hd
        cases e
        obtain ⟨a, vs, rfl, q, r'⟩ := dsL_ok st.le r hd
        exact call_tuple_of pins s σ H _ us Q I rv ⟨a, vs, rfl, .inl ⟨SqL.of q, yd.tup st r'⟩⟩
      · cases e
  · cases e
theorem RepVs.ints {g : Gv} {F : Hp} : ∀ (ns : List Int), RepVs g F (ns.map D.int) (ns.map V.int)
  | [] => by rw [List.map_nil, List.map_nil, RepVs]
  | n :: ns => by rw [List.map_cons, List.map_cons, RepVs]; exact ⟨_, _, rfl, repI, RepVs.ints ns⟩
theorem cb_list : CallR X (.type "list") (rF (gv X ca) lstF) := by
  intro pins s σ H xs us Q I rv ⟨F, Gx, σ', ρ, os, res, st, vw, e, yd⟩
  unfold lstF at e
  split at e
  · rename_i ns
    cases e
    obtain ⟨v, S, rfl, r⟩ := view1 vw
    rw [RepO, RepV] at r
    obtain ⟨a, rfl, q⟩ := r
    have yd' : Yd (gv X ca) H F Gx σ' ρ (.lst ((ns.map D.int).map .val)) Q := by rw [List.map_map]; exact yd
    exact call_list_of pins s σ H _ us Q I rv ⟨a, _, rfl, .inl (SqL.mono st.le q), yd'.lst st (RepVs.ints ns)⟩
  · rename_i o _
    obtain ⟨v, S, rfl, r⟩ := view1 vw
    split at e
    · rename_i ds hd
      cases e
      obtain ⟨a, vs, rfl, q, r'⟩ := dsT_ok st.le r hd
      exact call_list_of pins s σ H _ us Q I rv ⟨a, vs, rfl, .inr q, yd.lst st r'⟩
    · split at e
      · rename_i ds hd
        cases e
        obtain ⟨a, vs, rfl, q, r'⟩ := dsL_ok st.le r hd
        exact call_list_of pins s σ H _ us Q I rv ⟨a, vs, rfl, .inl (SqL.of q), yd.lst st r'⟩
      · cases e
  · cases e
theorem cb_int : CallR X (.type "int") (rF (gv X ca) intF) := by
  intro pins s σ H xs us Q I rv ⟨F, Gx, σ', ρ, os, res, st, vw, e, yd⟩
  unfold intF at e
  split at e
  · cases e
    obtain ⟨v, S, rfl, r⟩ := view1 vw
    cases r.intV
    exact call_int1 pins s σ H _ us Q I rv (.inl ⟨_, rfl, yd.val st repI⟩)
  · cases e
    obtain ⟨v, S, rfl, r⟩ := view1 vw
    cases r.blV
    exact call_int1 pins s σ H _ us Q I rv (.inr ⟨_, rfl, yd.val st repI⟩)
  · cases e
theorem cb_abs : CallR X (.builtin "abs") (rF (gv X ca) absF) := by
  intro pins s σ H xs us Q I rv ⟨F, Gx, σ', ρ, os, res, st, vw, e, yd⟩
  unfold absF at e
  split at e
  · cases e
    obtain ⟨v, S, rfl, r⟩ := view1 vw
    cases r.intV
    exact call_abs pins s σ H _ us Q I rv ⟨_, rfl, yd.val st repI⟩
  · cases e
theorem cb_max2 (hc : X.calm = true) : CallR X (.builtin "max") (rF (gv X ca) max2F) := by
  intro pins s σ H xs us Q I rv ⟨F, Gx, σ', ρ, os, res, st, vw, e, yd⟩
  unfold max2F at e
  split at e
  · cases e
    obtain ⟨v, w, S, T', rfl, r1, r2⟩ := view2 vw
    cases r1.intV; cases r2.intV
    exact call_max2 hc pins s σ H _ us Q I rv ⟨_, _, rfl, yd.val st repI⟩
  · cases e
theorem cb_min2 (hc : X.calm = true) : CallR X (.builtin "min") (rF (gv X ca) min2F) := by
  intro pins s σ H xs us Q I rv ⟨F, Gx, σ', ρ, os, res, st, vw, e, yd⟩
  unfold min2F at e
  split at e
  · cases e
    obtain ⟨v, w, S, T', rfl, r1, r2⟩ := view2 vw
    cases r1.intV; cases r2.intV
    exact call_min2 hc pins s σ H _ us Q I rv ⟨_, _, rfl, yd.val st repI⟩
  · cases e
end
end PF

set_option Elab.async false
set_option linter.all false
set_option maxRecDepth 100000
set_option maxHeartbeats 2000000
namespace PF
open PySem PySem.Spec PyProof.Rows L2
open PySem.W (alike alikeAll dataLe dataLt AllAlike Sortable EachIs)

theorem toPys_map : ∀ ds : List D, toPys ds = ds.map toPy
  | [] => rfl
  | d :: ds => by rw [toPys, toPys_map ds]; rfl
mutual
theorem toPy_inj : ∀ (n m : Nat) (a b : D), okD n a = true → okD m b = true → toPy a = toPy b → a = b
  | n, m, .non, b, h, h', e => by
    cases b <;> first
      | rfl
      | (simp [toPy] at e; done)
      | (cases m <;> simp [okD] at h'; done)
  | n, m, .bl x, b, h, h', e => by
    cases b <;> first
      | (simp [toPy] at e; done)
      | (simp [toPy] at e; rw [e]; done)
      | (cases m <;> simp [okD] at h'; done)
  | n, m, .int x, b, h, h', e => by
    cases b <;> first
      | (simp [toPy] at e; done)
      | (simp [toPy] at e; rw [e]; done)
      | (cases m <;> simp [okD] at h'; done)
  | n, m, .str x, b, h, h', e => by
    cases b <;> first
      | (simp [toPy] at e; done)
      | (simp [toPy] at e; rw [e]; done)
      | (cases m <;> simp [okD] at h'; done)
  | n, m, .tup xs, b, h, h', e => by
    cases b with
    | tup ys =>
      obtain ⟨k, rfl, hk⟩ := okD_tup.mp h
      obtain ⟨l, rfl, hl⟩ := okD_tup.mp h'
      rw [toPy, toPy] at e
      rw [toPys_inj k l xs ys hk hl (by injection e)]
    | _ => first
      | (simp [toPy] at e; done)
      | (cases m <;> simp [okD] at h'; done)
  | n, m, .lst xs, b, h, h', e => by
    cases b with
    | lst ys =>
      obtain ⟨k, rfl, hk⟩ := okD_lst.mp h
      obtain ⟨l, rfl, hl⟩ := okD_lst.mp h'
      rw [toPy, toPy] at e
      rw [toPys_inj k l xs ys hk hl (by injection e)]
    | _ => first
      | (simp [toPy] at e; done)
      | (cases m <;> simp [okD] at h'; done)
  | n, m, .dct _ _ _, b, h, h', e => by cases n <;> simp [okD] at h
  | n, m, .ins _ _ _, b, h, h', e => by cases n <;> simp [okD] at h
  | n, m, .scr _, b, h, h', e => by cases n <;> simp [okD] at h
  | n, m, .ty _, b, h, h', e => by cases n <;> simp [okD] at h
  | n, m, .exn _ _ _, b, h, h', e => by cases n <;> simp [okD] at h
theorem toPys_inj : ∀ (n m : Nat) (a b : List D), (∀ d ∈ a, okD n d = true) → (∀ d ∈ b, okD m d = true) → toPys a = toPys b → a = b
  | n, m, [], [], _, _, _ => rfl
  | n, m, [], _ :: _, _, _, e => by simp [toPys] at e
  | n, m, _ :: _, [], _, _, e => by simp [toPys] at e
  | n, m, x :: xs, y :: ys, h, h', e => by
    rw [toPys, toPys] at e
    injection e with e1 e2
    rw [toPy_inj n m x y (h x (by simp)) (h' y (by simp)) e1, toPys_inj n m xs ys (fun d hd => h d (by simp [hd])) (fun d hd => h' d (by simp [hd])) e2]
end
mutual
theorem reads_lt {h : Heap} : ∀ (d : PyData) (v : Value) (as : List Addr), alike d d = true → Reads h v d as → ∀ a ∈ as, a < h.objs.size
  | .none, _, _, _, r => by cases r; intro a m; cases m
  | .bool _, _, _, _, r => by cases r; intro a m; cases m
  | .int _, _, _, _, r => by cases r; intro a m; cases m
  | .str _, _, _, _, r => by cases r; intro a m; cases m
  | .list xs, _, _, al, r => by
    cases r with
    | list h1 h2 h3 h4 =>
      intro a m
      rcases List.mem_cons.mp m with rfl | m
      · exact Heap.lt_size h1
      · exact readsAll_lt xs _ _ (by simpa [alike] using al) h4 a m
  | .tuple xs, _, _, al, r => by
    cases r with
    | tuple h1 h2 h3 h4 => exact readsAll_lt xs _ _ (by simpa [alike] using al) h4
  | .dict _, _, _, al, _ => absurd al (by simp [alike])
theorem readsAll_lt {h : Heap} : ∀ (ds : List PyData) (vs : List Value) (as : List Addr), alikeAll ds ds = true → ReadsAll h vs ds as → ∀ a ∈ as, a < h.objs.size
  | [], _, _, _, r => by cases r; intro a m; cases m
  | d :: ds, _, _, al, r => by
    cases r with
    | cons h1 h2 =>
      intro a m
      rcases List.mem_append.mp m with m | m
      · exact reads_lt d _ _ (PySem.W.alike_all_cons al).1 h1 a m
      · exact readsAll_lt ds _ _ (PySem.W.alike_all_cons al).2 h2 a m
end
/-- all may be put in order -/
def D.srt : D → Bool
  | .tup (_ :: _) => true
  | _ => false
def D.plain : D → Bool
  | .bl _ => true
  | .int _ => true
  | .str _ => true
  | .lst _ => true
  | _ => false
def srtOk (ds : List D) : Bool := ds.all (okD 16) && ds.all (fun x => ds.all fun y => alike (toPy x) (toPy y)) && (ds.all D.srt || ds.all D.plain) && decide (ds.length ≤ lim)
def srtD (ds : List D) : List D := ds.mergeSort (dataLe false toPy)
structure SrtOk (ds : List D) : Prop where
  ok : ∀ d ∈ ds, okD 16 d = true
  al : AllAlike (ds.map toPy)
  so : Sortable (ds.map toPy)
  len : ds.length ≤ lim
theorem srtOk_is {ds : List D} (h : srtOk ds = true) : SrtOk ds := by
  unfold srtOk at h
  rw [Bool.and_eq_true, Bool.and_eq_true, Bool.and_eq_true] at h
  obtain ⟨⟨⟨h1, h2⟩, h3⟩, h4⟩ := h
  rw [List.all_eq_true] at h1 h2
  refine ⟨h1, fun a ha b hb => ?_, ?_, of_decide_eq_true h4⟩
  · obtain ⟨x, hx, rfl⟩ := List.mem_map.mp ha
    obtain ⟨y, hy, rfl⟩ := List.mem_map.mp hb
    exact List.all_eq_true.mp (h2 x hx) y hy
  · rw [Bool.or_eq_true, List.all_eq_true, List.all_eq_true] at h3
    rcases h3 with h3 | h3
    · refine .inl fun a ha => ?_
      obtain ⟨x, hx, rfl⟩ := List.mem_map.mp ha
      have q := h3 x hx
      cases x with
      | tup xs =>
        cases xs with
        | nil => cases q
        | cons x xs => exact ⟨toPy x, toPys xs, by rw [toPy, toPys]⟩
      | _ => cases q
    · refine .inr fun a ha => ?_
      obtain ⟨x, hx, rfl⟩ := List.mem_map.mp ha
      have q := h3 x hx
      cases x <;> first
        | (simp [toPy]; done)
        | (cases q; done)
section
variable {X : Cx} {ca : Ca} {pins : List (Addr × Obj)} {σ : L2.St} {H F : Hp} {s : Shared} {g : Gv}
theorem each_rep (I : Inv X pins σ H s) (le : Le F H) : ∀ {ds : List D} {vs : List V} {us : List Value}, RepVs (gv X ca) F ds vs → Vals vs us → EachIs (fun u d => ∃ v, RelV v u ∧ RepV (gv X ca) F d v) us ds
  | [], vs, us, r, q => by rw [RepVs] at r; subst r; cases q; exact .nil
  | d :: ds, vs, us, r, q => by
    rw [RepVs] at r
    obtain ⟨v, w, rfl, r1, r2⟩ := r
    cases q with
    | cons q1 q2 => exact .cons ⟨v, q1, r1⟩ (each_rep I le r2 q2)
theorem rep_each : ∀ {ds : List D} {us : List Value}, EachIs (fun u d => ∃ v, RelV v u ∧ RepV (gv X ca) F d v) us ds → ∃ vs, RepVs (gv X ca) F ds vs ∧ Vals vs us
  | [], _, .nil => ⟨[], by rw [RepVs], .nil⟩
  | d :: ds, _, .cons ⟨v, h1, h2⟩ t => by
    obtain ⟨vs, r, q⟩ := rep_each t
    exact ⟨v :: vs, by rw [RepVs]; exact ⟨v, vs, rfl, h2, r⟩, .cons h1 q⟩
theorem each_reads (I : Inv X pins σ H s) (le : Le F H) : ∀ {ds : List D} {vs : List V} {us : List Value}, (∀ d ∈ ds, okD 16 d = true) → RepVs (gv X ca) F ds vs → Vals vs us → EachIs (fun u d => ∃ as, Reads s.heap u (toPy d) as) us ds
  | [], vs, us, _, r, q => by rw [RepVs] at r; subst r; cases q; exact .nil
  | d :: ds, vs, us, h, r, q => by
    rw [RepVs] at r
    obtain ⟨v, w, rfl, r1, r2⟩ := r
    cases q with
    | cons q1 q2 => exact .cons (Dp.reads I _ v _ (dp_of 16 d v le (h d (by simp)) r1) q1) (each_reads I le (fun x hx => h x (by simp [hx])) r2 q2)
end
/-- keys that sorted(d) or a walk meets -/
def O.keysT : O → Option (List D)
  | .val (.dct true ks _) => some ks
  | .dct true ks _ => some ks
  | _ => none
def srtF : List O → Option O
  | [o] => match o.keysT with
    | some ks => if srtOk ks = true then some (.lst ((srtD ks).map .val)) else none
    | none => match o.dsL with
      | some ds => if srtOk ds = true then some (.lst ((srtD ds).map .val)) else none
      | none => none
  | _ => none
section
variable {X : Cx} {ca : Ca}
theorem keysT_ok {g : Gv} {H F : Hp} {o : O} {v : V} {S : Addr → Prop} {ks : List D} (le : Le F H) (r : RepO g H F o v S) (h : o.keysT = some ks) : ∃ a, ∃ xs : List (NestedKey × Addr × V), v = .ref a ∧ NKs g F ks xs ∧ H a = some (dTN g a xs) := by
  unfold O.keysT at h
  split at h
  · cases h
    obtain ⟨a, xs, e1, e2, e3, _⟩ := asD_true le r rfl
    exact ⟨a, xs, e1, e2, e3⟩
  · cases h
    obtain ⟨a, xs, e1, e2, e3, _⟩ := asD_true le r rfl
    exact ⟨a, xs, e1, e2, e3⟩
  · cases h
theorem vals_refs2 : ∀ {xs : List (NestedKey × Addr × V)} {ys : List (NestedKey × Addr × Value)}, Paired NRel xs ys → Vals (xs.map fun x => V.ref x.2.1) (ys.map fun y => Value.ref y.2.1)
  | [], [], .nil => .nil
  | x :: xs, y :: ys, .cons r t => .cons (by obtain ⟨_, e, _⟩ := r; show RelV (V.ref x.2.1) (Value.ref y.2.1); rw [e]; exact rfl) (vals_refs2 t)
theorem cb_sorted (hc : X.calm = true) (hu : X.A.units + 65 < cLine) : CallR X (.builtin "sorted") (rF (gv X ca) srtF) := by
  intro pins s σ H xs us Q I rv ⟨F, Gx, σ', ρ, os, res, st, vw, e, yd⟩
  unfold srtF at e
  split at e
  · rename_i o
    obtain ⟨v, S, rfl, r⟩ := view1 vw
    obtain ⟨u, rfl, ru⟩ := vals1 rv
    split at e
    · rename_i ks hk
      split at e
      · rename_i hs
        cases e
        have so := srtOk_is hs
        obtain ⟨a, xs, rfl, nk, hH⟩ := keysT_ok st.le r hk
        cases ru
        obtain ⟨z, lo, ys, pr, dd⟩ := dN_of I st.le nk hH
        obtain ⟨o, es, ep, ho, hx, hdt, he, hi, hn⟩ := id dd
        have l1 : es.size = ys.length := size_of_entries he
        have l2 : xs.length = ys.length := Paired.length pr
        have lk : ks.length = ys.length := by have := nk.rep.length; rw [← l2, ← this, List.length_map]
        have hlim := so.len
        refine Calls.call_function_entry PyProof.Rows.kind_sorted PyProof.Rows.plain_sorted PyProof.Rows.entry_sorted (PyProof.Rows.args_sorted1 _) ?_
        unfold Builtin.«sorted»
        refine wpAny_bind (m := checkCount "sorted" 1 1 _) (wpAny_pure ?_)
        refine wpAny_bind (PySem.W.kdu_collect (A := X.A.in1) (kdl_raw lo hx hdt) (I.ok.hd hc) ho (by omega) fun h' tk acc kp it => ?_)
        have ea : acc.toList = ys.map fun x => Value.ref x.2.1 := by
          have hl : acc.toList.length = ys.length := by rw [Array.length_toList, it.1]; exact l1
          apply List.ext_getElem?
          intro j
          rw [List.getElem?_map]
          cases hj : acc.toList[j]? with
          | none =>
            have h1 := List.getElem?_eq_none_iff.mp hj
            rw [List.getElem?_eq_none (by omega)]
            all_goals rfl
          | some v =>
            obtain ⟨en, hen, hv⟩ := it.2 j v (by rw [← Array.getElem?_toList]; exact hj)
            have qe := entry_at he j
            rw [hen] at qe
            cases hb : ys[j]? with
            | none => rw [hb] at qe; exact nomatch (show some en = none from qe)
            | some b =>
              rw [hb] at qe
              have e2 : en = entryOfKey (nestedKind X.prog X.w) b := Option.some.inj qe
              rw [hv, e2]
              all_goals rfl
        have I1 : Inv X pins σ H { s with heap := h', toks := tk } := I.kept kp
        have vl : Vals (xs.map fun x => V.ref x.2.1) acc.toList := by rw [ea]; exact vals_refs2 pr
        have al : acc.toList.length = ks.length := by rw [ea, List.length_map, lk]
        have hzl : acc.toList.length ≤ sizeLine := by rw [al]; exact lim_le so.len
        refine wpAny_bind (wpAny_newList ?_ hzl)
        have hoL : (h'.push (seqObj "list" acc.toList.toArray 0)).get? h'.objs.size = some (seqObj "list" acc.toList.toArray 0) := Heap.get?_push_size _ rfl
        have er := each_reads I1 st.le so.ok nk.rep vl
        have er2 : EachIs (fun u d => ∃ as, Reads (h'.push (seqObj "list" acc.toList.toArray 0)) u (toPy d) as ∧ h'.objs.size ∉ as) acc.toList ks := (PySem.W.each_mem er).mono fun u d ⟨⟨as, q⟩, hd⟩ => ⟨as, PyProof.Rows.Reads.keeps (fun _ _ w => Heap.get?_push_of_some _ w) q, fun m => by
          have hm := List.mem_map_of_mem (f := toPy) hd
          exact Nat.lt_irrefl _ (reads_lt _ _ _ (so.al _ hm _ hm) q _ m)⟩
        refine wpAny_bind (wpAny_holding (PySem.W.list_sort_data (s := { s with heap := h'.push (seqObj "list" acc.toList.toArray 0), toks := tk }) (enc := toPy) hoL (each_rep (ca := ca) I1 st.le nk.rep vl) er2 so.al so.so (lim_le so.len) (fun b hb => ?_) fun out hl ei => ?_))
        · have := (okD_lay 16 b (so.ok b hb)).2
          show X.A.units + 1 + 1 + _ < _
          omega
        · obtain ⟨ws, rw', vw'⟩ := rep_each ei
          obtain ⟨ep2, he2⟩ := PyProof.Rows.sortedHeap_at (vs := acc.toList) (out := out.toArray) hoL
          have wl : ws.length ≤ sizeLine := by rw [vw'.length, hl]; exact lim_le so.len
          refine wpAny_pure ⟨_, rfl, .ref h'.objs.size, upd H h'.objs.size (.lst ws), I1.laid (t' := tk) (fun b u e => ?_) (Nat.le_refl _) (show ObjOk X.prog X.w _ _ _ (.lst ws) from ⟨wl, out, ep2, vw', he2⟩), rfl, yd.lst st rw' _ (I1.hok.fresh (Nat.le_refl _))⟩
          have hb : b < h'.objs.size := Heap.lt_size e
          rw [PyProof.Rows.sortedHeap_old (Nat.ne_of_lt hb) (by rw [size_push']; exact Nat.lt_succ_of_lt hb)]
          exact Heap.get?_push_of_some _ e
      · cases e
    · split at e
      · rename_i ds hd
        split at e
        · rename_i hs
          cases e
          have so := srtOk_is hs
          obtain ⟨a, vs, rfl, q, rr⟩ := dsL_ok st.le r hd
          cases ru
          obtain ⟨its, vl, pl, hz⟩ := I.list (SqL.of q)
          refine PySem.W.sorted_data (enc := toPy) pl.isList (each_rep (ca := ca) I st.le rr vl) (each_reads I st.le so.ok rr vl) so.al so.so (lim_le so.len) (fun b hb => ?_) fun out hl ei => ?_
          · have := (okD_lay 16 b (so.ok b hb)).2
            omega
          · obtain ⟨ws, rw', vw'⟩ := rep_each ei
            obtain ⟨ep2, he2⟩ := PyProof.Rows.sortedAll_at s.heap its out.toArray
            have wl : ws.length ≤ sizeLine := by rw [vw'.length, hl]; exact lim_le so.len
            exact ⟨.ref (s.heap.objs.size + 1), upd H _ (.lst ws), I.laid (t' := s.toks) (fun b u e => PyProof.Rows.sortedAll_old e) (Nat.le_succ _) (show ObjOk X.prog X.w _ _ _ (.lst ws) from ⟨wl, out, ep2, vw', he2⟩), rfl, yd.lst st rw' _ (I.hok.fresh (Nat.le_succ _))⟩
        · cases e
      · cases e
  · cases e
end
end PF

set_option Elab.async false
set_option linter.all false
set_option maxRecDepth 100000
set_option maxHeartbeats 2000000
namespace PF
open PySem PySem.Spec PyProof.Rows L2
open PySem.W (alike alikeAll dataLe dataLt AllAlike Sortable EachIs)

/-! ### a op b op c, of ints -/
def intM (f : M O) : M Int := f.bind fun o => match o with
  | .val (.int i) => M.pure i
  | _ => M.stuck
def chI (C C' : O → O → Option Bool) (fa fb fc : M O) : M Bool := (intM fa).bind fun x => (intM fb).bind fun y => (M.of (C (.val (.int x)) (.val (.int y)))).bind fun k => if k = true then (intM fc).bind fun z => M.of (C' (.val (.int y)) (.val (.int z))) else M.pure false
section
variable {W : WX} {X : Cx} {ca : Ca} {a b c : Expr} {fa fb fc : M O} {pos : Pos} {g : Gv}
theorem TR_int {α : Type} {f : M O} {k : Int → M α} {σ : L2.St} {H : Hp} {F Gx : Hp} {ρ : Sls} {R : α → Hp → Hp → Sls → Prop} (st : StG g H F Gx σ ρ []) (r : Rn g W ((intM f).bind k) σ H F Gx ρ R) :
    TR g W f σ H fun x H1 => ∃ i F1 ρ1, x = .int i ∧ StG g H1 F1 Gx σ ρ1 [] ∧ Rn g W (k i) σ H1 F1 Gx ρ1 R := by
  refine ⟨F, Gx, ρ, st, ?_⟩
  unfold intM at r
  rw [M.bind_assoc] at r
  refine r.bind.mono fun o H1 F1 ρ1 le r1 v S st1 rv => ?_
  split at r1
  · cases rv.intV
    exact ⟨_, F1, ρ1, rfl, st1, r1⟩
  · obtain ⟨_, _, e⟩ := r1.run; cases e
theorem rC_int {C : O → O → Option Bool} {x y : Int} {k : Bool} {H : Hp} {Q : VK} (e : C (.val (.int x)) (.val (.int y)) = some k) (q : Q (.bl k) H) : rC g C (.int x) (.int y) H Q :=
  ⟨fun _ => none, _, _, fun _ => False, fun _ => False, k, fun _ _ h => (nomatch h), by rw [RepO]; exact repI, by rw [RepO]; exact repI, e, q⟩
theorem chain_run {C C' : O → O → Option Bool} {σ : L2.St} {H : Hp} {Q : Bool → Hp → Prop} (h : Tt g W (chI C C' fa fb fc) σ H Q) : tTest (tChain (rC g C) (rC g C') (TR g W fa) (TR g W fb) (TR g W fc)) σ H Q := by
  obtain ⟨F, Gx, ρ, st, r⟩ := h
  have key : ∀ {t : TE} {R R' : VK}, (∀ σ H (R R' : VK), (∀ x H, R x H → R' x H) → t σ H R → t σ H R') → (∀ x H, R x H → R' x H) → t σ H R → t σ H R' := fun m i q => m σ H _ _ i q
  have mono : ∀ (f : M O) σ H (R R' : VK), (∀ x H, R x H → R' x H) → TR g W f σ H R → TR g W f σ H R' := fun f σ H R R' i ⟨F, Gx, ρ, st, r⟩ => ⟨F, Gx, ρ, st, r.mono fun o H' F' ρ' le q v S st' rv => i _ _ (q v S st' rv)⟩
  refine mono fa _ _ _ _ (fun x H1 ⟨i, F1, ρ1, ex, st1, r1⟩ => ?_) (TR_int st r)
  subst ex
  refine mono fb _ _ _ _ (fun y H2 ⟨j, F2, ρ2, ey, st2, r2⟩ => ?_) (TR_int st1 r1)
  subst ey
  obtain ⟨k, hk, r3⟩ := r2.bind.of
  refine rC_int hk ⟨k, rfl, ?_⟩
  have r4 := r3 H2 F2 (Le.refl _)
  cases k with
  | false => exact ⟨false, rfl, r4.pure H2 F2 (Le.refl _) st2⟩
  | true =>
    refine mono fc _ _ _ _ (fun z H3 ⟨l, F3, ρ3, ez, st3, r5⟩ => ?_) (TR_int st2 r4)
    subst ez
    obtain ⟨k2, hk2, r6⟩ := r5.of
    exact rC_int hk2 ⟨k2, rfl, r6 H3 F3 (Le.refl _) st3⟩
theorem t_chain {op op' : CmpOp} {C C' : O → O → Option Bool} (ho : OpR X (compareOp op) (rC (gv X ca) C)) (ho' : OpR X (compareOp op') (rC (gv X ca) C')) (ha : PE X a (TR (gv X ca) W fa)) (hb : PE X b (TR (gv X ca) W fb)) (hc : PE X c (TR (gv X ca) W fc))
    (hm : lastMarks [op, op'] [b, c] = false := by with_unfolding_all rfl) : PT X (.Compare a [op, op'] [b, c] pos) (Tt (gv X ca) W (chI C C' fa fb fc)) :=
  PT.imp (pt_chain ho ho' ha hb hc hm) fun σ H Q h => chain_run h
theorem e_chain {op op' : CmpOp} {C C' : O → O → Option Bool} (ho : OpR X (compareOp op) (rC (gv X ca) C)) (ho' : OpR X (compareOp op') (rC (gv X ca) C')) (ha : PE X a (TR (gv X ca) W fa)) (hb : PE X b (TR (gv X ca) W fb)) (hc : PE X c (TR (gv X ca) W fc))
    (hm : lastMarks [op, op'] [b, c] = false := by with_unfolding_all rfl) : PE X (.Compare a [op, op'] [b, c] pos) (T (gv X ca) W (blO (chI C C' fa fb fc))) :=
  PE.imp (pe_chain (r := fun x y H Q => rC (gv X ca) C x y H Q) (r' := fun x y H Q => rC (gv X ca) C' x y H fun z H' => ∃ k, z = .bl k ∧ Q (.bl k) H') ho
    (fun pins s σ H x y v u Q I rx ry h => ho' pins s σ H x y v u Q I rx ry (rC_mono h fun b ⟨k, e, q⟩ => by cases e; exact q)) ha hb hc hm) fun σ H Q h => by
    have mono : ∀ (f : M O) σ H (R R' : VK), (∀ x H, R x H → R' x H) → TR (gv X ca) W f σ H R → TR (gv X ca) W f σ H R' := fun f σ H R R' i ⟨F, Gx, ρ, st, r⟩ => ⟨F, Gx, ρ, st, r.mono fun o H' F' ρ' le q v S st' rv => i _ _ (q v S st' rv)⟩
    refine mono fa _ _ _ _ (fun x H1 q1 => mono fb _ _ _ _ (fun y H2 q2 => rC_mono q2 fun b ⟨k, e, q⟩ => ⟨k, e, ?_⟩) q1) (chain_run (T_bl h))
    cases k with
    | true => exact q
    | false => obtain ⟨k, e, q⟩ := q; cases e; exact q
end

/-! ### a, b = x, y -/
def par2 (i j : Nat) (fs : M (List O)) : M Out := fs.bind fun os => match os with
  | [a, b] => (putS i a).bind fun _ => (putS j b).bind fun _ => M.pure .nx
  | _ => M.stuck
def par3 (i j k : Nat) (fs : M (List O)) : M Out := fs.bind fun os => match os with
  | [a, b, c] => (putS i a).bind fun _ => (putS j b).bind fun _ => (putS k c).bind fun _ => M.pure .nx
  | _ => M.stuck
section
variable {W : WX} {pn : List Nat} {X : Cx} {ca : Ca} {a b c : Expr} {fs : M (List O)} {pos pt px py pz pt2 : Pos} {x y z : Str} {i j k kt k2 : Nat} {g : Gv}
theorem Ts_puts {i : Nat} {o : O} {k : M Out} {D : Ends} {σ : L2.St} {H F Gx : Hp} {ρ : Sls} {v : V} {L : List (V × O)} (hi : i ∉ pn) (st : StG g H F Gx σ ρ ((v, o) :: L)) (r : Rs g W pn ((putS i o).bind fun _ => k) σ F Gx ρ (EndR g Gx D)) :
    ∃ ρ1, StG g H F Gx (σ.set i (some v)) ρ1 L ∧ Rs g W pn k (σ.set i (some v)) F Gx ρ1 (EndR g Gx D) := by
  by_cases hl : i < ρ.length
  · have e : putS i o ρ = some (.ok (), ρ.set i (some o)) := by unfold putS; rw [if_pos hl]
    exact ⟨ρ.set i (some o), st.store hl, r.bind.ok e H F (σ.set i (some v)) (Le.refl F) (Pin.set hi)⟩
  · exfalso
    obtain ⟨_, _, e⟩ := r.run
    unfold M.bind putS at e
    rw [if_neg hl] at e
    cases e
theorem s_par2 (hc : X.calm = true) (hN : X.N.Nodup) (hi : X.N[i]? = some x) (hj : X.N[j]? = some y) (hij : i ≠ j) (hpi : i ∉ pn) (hpj : j ∉ pn)
    (hx : X.env.scope.names.lookup x = some .local) (hy : X.env.scope.names.lookup y = some .local) (ha : PA X [a, b] (TL g W fs))
    (hw : swappedStores [.Tuple [.Name x px, .Name y py] kt pt] (.Tuple [a, b] k2 pt2) X.env = pure (some [x, y]))
    (hs : swapsWithSole [.Tuple [.Name x px, .Name y py] kt pt] (.Tuple [a, b] k2 pt2) pos.line X.env = pure false := by rfl) :
    PS X (.Assign [.Tuple [.Name x px, .Name y py] kt pt] (.Tuple [a, b] k2 pt2) pos) (Ts g W pn (par2 i j fs)) :=
  PS.imp (ps_par hc hN hi hj hij hx hy ha hw hs) fun D σ H ⟨F, Gx, ρ, st, r⟩ => ⟨F, Gx, ρ, st, r.expr.mono fun os H' F' ρ' le r1 vs hl st' => by
    split at r1
    · obtain ⟨v, w, rfl⟩ : ∃ v w, vs = [v, w] := by
        match vs, hl with
        | [v, w], _ => exact ⟨v, w, rfl⟩
      refine ⟨v, w, rfl, ?_⟩
      obtain ⟨ρ1, st1, r2⟩ := Ts_puts hpi (show StG g H' F' Gx σ ρ' ((v, _) :: [(w, _)]) from st') r1
      obtain ⟨ρ2, st2, r3⟩ := Ts_puts hpj st1 r2
      exact r3.pure H' F' _ (Le.refl _) (Pin.refl _) st2
    · obtain ⟨_, _, e⟩ := r1.run; cases e⟩
theorem s_par3 (hc : X.calm = true) (hN : X.N.Nodup) (hi : X.N[i]? = some x) (hj : X.N[j]? = some y) (hk : X.N[k]? = some z) (hij : i ≠ j) (hik : i ≠ k) (hjk : j ≠ k) (hpi : i ∉ pn) (hpj : j ∉ pn) (hpk : k ∉ pn)
    (hx : X.env.scope.names.lookup x = some .local) (hy : X.env.scope.names.lookup y = some .local) (hz : X.env.scope.names.lookup z = some .local) (ha : PA X [a, b, c] (TL g W fs))
    (hw : swappedStores [.Tuple [.Name x px, .Name y py, .Name z pz] kt pt] (.Tuple [a, b, c] k2 pt2) X.env = pure (some [x, y, z]))
    (hs : swapsWithSole [.Tuple [.Name x px, .Name y py, .Name z pz] kt pt] (.Tuple [a, b, c] k2 pt2) pos.line X.env = pure false := by rfl) :
    PS X (.Assign [.Tuple [.Name x px, .Name y py, .Name z pz] kt pt] (.Tuple [a, b, c] k2 pt2) pos) (Ts g W pn (par3 i j k fs)) :=
  PS.imp (ps_par3 hc hN hi hj hk hij hik hjk hx hy hz ha hw hs) fun D σ H ⟨F, Gx, ρ, st, r⟩ => ⟨F, Gx, ρ, st, r.expr.mono fun os H' F' ρ' le r1 vs hl st' => by
    split at r1
    · obtain ⟨v, w, u, rfl⟩ : ∃ v w u, vs = [v, w, u] := by
        match vs, hl with
        | [v, w, u], _ => exact ⟨v, w, u, rfl⟩
      refine ⟨v, w, u, rfl, ?_⟩
      obtain ⟨ρ1, st1, r2⟩ := Ts_puts hpi (show StG g H' F' Gx σ ρ' ((v, _) :: [(w, _), (u, _)]) from st') r1
      obtain ⟨ρ2, st2, r3⟩ := Ts_puts hpj st1 r2
      obtain ⟨ρ3, st3, r4⟩ := Ts_puts hpk st2 r3
      exact r4.pure H' F' _ (Le.refl _) (Pin.refl _) st3
    · obtain ⟨_, _, e⟩ := r1.run; cases e⟩
end

/-! ### xs.append(e) -/
def pushO (o : O) : O → Option O
  | .lst os => if os.length ≤ lim then some (.lst (os ++ [o])) else none
  | _ => none
def appF (i : Nat) (fe : M O) : M O := (pk i).bind fun b => match b with
  | .lst _ => fe.bind fun o => (upM i (pushO o)).bind fun _ => M.pure (.val .non)
  | _ => M.stuck
theorem app_run {g : Gv} {σ : L2.St} {H F Gx : Hp} {ρ : Sls} {i : Nat} {o v : O} {o' : O} {x vv : V} (st : StG g H F Gx σ ρ [(vv, v)]) (hi : ρ[i]? = some (some o)) (hx : σ[i]? = some (some x)) (e : pushO v o = some o') :
    ∃ l xs, x = .ref l ∧ H l = some (.lst xs) ∧ xs.length < sizeLine ∧ StG g (upd H l (.lst (xs ++ [vv]))) F Gx σ (ρ.set i (some o')) [] := by
  unfold pushO at e
  split at e
  · rename_i os
    split at e
    · rename_i hz
      cases e
      obtain ⟨x', S, hx', rx⟩ := st.peek hi
      rw [hx] at hx'; cases hx'
      rw [RepO] at rx
      obtain ⟨a, vs, rfl, _⟩ := rx
      obtain ⟨S1, SA, r1, rA, d, w⟩ := StG.wr (A := [(vv, v)]) (L := []) st hi hx
      rw [RepO] at r1
      obtain ⟨a', vs, e', sa', hH, rs⟩ := r1
      cases e'
      refine ⟨a, vs, rfl, hH, by rw [rs.length]; exact lim_lt hz, w _ _ sa' ?_⟩
      rw [RepO]
      exact ⟨a, _, rfl, .inl sa', upd_same, RepOs.wrote (RepOs.snoc rs rA.one fun b h1 h2 => d b h1.1 h2) sa' d⟩
    · cases e
  · cases e
section
variable {W : WX} {X : Cx} {ca : Ca} {a e : Expr} {fe : M O} {apos cpos : Pos}
theorem e_append (i : Nat) (ha : PE X a (tVar i)) (he : PE X e (T (gv X ca) W fe))
    (hbase : attributeBase a "append" X.env (eval a X.env) = eval a X.env := by rfl)
    (hfew : ((backTo cpos (starEach [e] X.env)).all (fun x => !x.1) && (backToKw cpos (keywordEach [] X.env)).all (fun x => x.1.isSome)
      && decide (([e] : List Expr).length + ([] : List Keyword).length + (if ([] : List Keyword).isEmpty then 0 else 1) < 30)) = true := by rfl)
    (hline : (apos.endLine == cpos.line) = true := by rfl) (hs : starEach [e] X.env = (false, eval e X.env) :: starEach [] X.env := by rfl) (hplain : (backTo cpos (starEach [] X.env)).any (·.1) = false := by rfl) :
    PE X (.Call (.Attribute a "append" apos) [e] [] cpos) (T (gv X ca) W (appF i fe)) :=
  PE.imp (pe_bm PySem.F.plainAttrs_list PySem.F.slot_list_append PySem.F.type_list_append mt_append ha (pa_cons he pa_nil hs) hbase hfew hline hs hplain) fun σ H Q ⟨F, Gx, ρ, st, r⟩ => by
    obtain ⟨o0, h0, r⟩ := r.pk
    obtain ⟨x, S, hx, rx⟩ := st.peek h0
    split at r
    · rename_i os
      rw [RepO] at rx
      obtain ⟨l, vs, rfl, sa, hH, rs⟩ := rx
      refine ⟨_, hx, .inl ⟨rfl, vs, SqL.of hH⟩, F, Gx, ρ, st, r.bind.mono fun v H1 F1 ρ1 le1 r1 vv st1 => ?_⟩
      obtain ⟨o1, o2, h1, h2, r2⟩ := r1.up
      obtain ⟨l', xs, e1, hH1, hz, st2⟩ := app_run st1 h1 hx h2
      cases e1
      exact ⟨l, xs, vv, rfl, rfl, hH1, hz, (r2 (upd H1 l (.lst (xs ++ [vv])))).pure _ F1 (Le.refl _) .non (st2.ofVal repN)⟩
    · obtain ⟨_, _, e⟩ := r.run; cases e
end

/-! ### sep.join(texts) -/
def strsD : List D → Option (List Str)
  | [] => some []
  | .str x :: ds => (strsD ds).map (x :: ·)
  | _ :: _ => none
def joinG (a : Str) (o : O) : Option O := match o.dsT.or o.dsL with
  | some ds => (match strsD ds with
    | some ys => if (ys.map (·.length)).sum + ys.length * a.length ≤ lim then some (.val (.str (Txt.join a ys))) else none
    | none => none)
  | none => none
def strM (f : M O) : M Str := f.bind fun o => match o with
  | .val (.str a) => M.pure a
  | _ => M.stuck
def sm1 (G : Str → O → Option O) (fa fb : M O) : M O := (strM fa).bind fun a => fb.bind fun o => M.of (G a o)
def rS1 (g : Gv) (G : Str → O → Option O) : V → List V → Hp → VK → Prop := fun x xs H Q => ∃ F Gx σ ρ a o S y res, x = .str a ∧ xs = [y] ∧ StG g H F Gx σ ρ [] ∧ RepO g H F o y S ∧ G a o = some res ∧ Yd g H F Gx σ ρ res Q
theorem strsD_ok {g : Gv} {F : Hp} : ∀ {ds : List D} {vs : List V} {ys : List Str}, RepVs g F ds vs → strsD ds = some ys → vs = ys.map V.str
  | [], vs, ys, r, h => by rw [RepVs] at r; subst r; cases h; rfl
  | .str x :: ds, vs, ys, r, h => by
    rw [strsD] at h
    obtain ⟨zs, h1, rfl⟩ := Option.map_eq_some_iff.mp h
    rw [RepVs] at r
    obtain ⟨v, w, rfl, r1, r2⟩ := r
    rw [RepV] at r1; subst r1
    rw [strsD_ok r2 h1]; rfl
  | .non :: _, vs, ys, r, h => by cases h
  | .bl _ :: _, vs, ys, r, h => by cases h
  | .int _ :: _, vs, ys, r, h => by cases h
  | .tup _ :: _, vs, ys, r, h => by cases h
  | .lst _ :: _, vs, ys, r, h => by cases h
  | .dct _ _ _ :: _, vs, ys, r, h => by cases h
  | .ins _ _ _ :: _, vs, ys, r, h => by cases h
  | .scr _ :: _, vs, ys, r, h => by cases h
  | .ty _ :: _, vs, ys, r, h => by cases h
  | .exn _ _ _ :: _, vs, ys, r, h => by cases h
section
variable {W : WX} {X : Cx} {ca : Ca} {a e : Expr} {fa fb : M O} {apos pos : Pos} {g : Gv}
theorem TR_str {α : Type} {f : M O} {k : Str → M α} {σ : L2.St} {H : Hp} {F Gx : Hp} {ρ : Sls} {R : α → Hp → Hp → Sls → Prop} (st : StG g H F Gx σ ρ []) (r : Rn g W ((strM f).bind k) σ H F Gx ρ R) :
    TR g W f σ H fun x H1 => ∃ i F1 ρ1, x = .str i ∧ StG g H1 F1 Gx σ ρ1 [] ∧ Rn g W (k i) σ H1 F1 Gx ρ1 R := by
  refine ⟨F, Gx, ρ, st, ?_⟩
  unfold strM at r
  rw [M.bind_assoc] at r
  refine r.bind.mono fun o H1 F1 ρ1 le r1 v S st1 rv => ?_
  split at r1
  · cases rv.strV
    exact ⟨_, F1, ρ1, rfl, st1, r1⟩
  · obtain ⟨_, _, e⟩ := r1.run; cases e
theorem TR_mono {f : M O} {σ : L2.St} {H : Hp} {R R' : VK} (h : TR g W f σ H R) (i : ∀ x H, R x H → R' x H) : TR g W f σ H R' :=
  let ⟨F, Gx, ρ, st, r⟩ := h
  ⟨F, Gx, ρ, st, r.mono fun o H' F' ρ' le q v S st' rv => i _ _ (q v S st' rv)⟩
/-- a text's method, one argument -/
theorem e_sm1 {id : String} {name : Str} {G : Str → O → Option O} (slot : Slot "str" name id) (ty : typeOf (.builtin id) = pure (.type "method_descriptor")) (rule : MtR X id (rS1 (gv X ca) G)) (ha : PE X a (TR (gv X ca) W fa)) (hb : PE X e (TR (gv X ca) W fb))
    (hs : starEach [e] X.env = [(false, eval e X.env)] := by rfl) (hbase : attributeBase a name X.env (eval a X.env) = eval a X.env := by rfl) (hline : (apos.endLine == pos.line) = true := by rfl) :
    PE X (.Call (.Attribute a name apos) [e] [] pos) (T (gv X ca) W (sm1 G fa fb)) :=
  PE.imp (pe_m1 slot ty rule ha hb hs hbase hline) fun σ H Q ⟨F, Gx, ρ, st, r⟩ => by
    refine TR_mono (TR_str st r) fun x H1 ⟨z, F1, ρ1, ex, st1, r1⟩ => ?_
    subst ex
    refine ⟨⟨z, rfl⟩, F1, Gx, ρ1, st1, r1.bind.mono fun o H2 F2 ρ2 le r2 y S st2 ry => ?_⟩
    obtain ⟨res, e, q⟩ := r2.of
    exact ⟨F2, Gx, σ, ρ2, z, o, S, y, res, rfl, rfl, st2, ry, e, fun v H3 F3 le3 st3 => q H3 F3 le3 v st3⟩
theorem sr_join : MtR X "str.join" (rS1 (gv X ca) joinG) := by
  intro pins s σ H x xs v us Q I rx rs ⟨F, Gx, σ', ρ, a, o, S, y, res, e1, e2, st, ry, e, yd⟩
  subst e1 e2
  unfold joinG at e
  split at e
  · rename_i ds hd
    split at e
    · rename_i ys hy
      split at e
      · rename_i hz
        cases e
        have hz2 : (ys.map (·.length)).sum + ys.length * a.length ≤ 16777216 := by unfold lim at hz; omega
        rcases Option.or_eq_some_iff.mp hd with hd | ⟨_, hd⟩
        · obtain ⟨p, vs, rfl, q, rr⟩ := dsT_ok st.le ry hd
          rw [strsD_ok rr hy] at q
          exact mt_join pins s σ H _ _ v us Q I rx rs ⟨a, p, ys, rfl, rfl, .inr q, hz2, yd.val st repS⟩
        · obtain ⟨p, vs, rfl, q, rr⟩ := dsL_ok st.le ry hd
          rw [strsD_ok rr hy] at q
          exact mt_join pins s σ H _ _ v us Q I rx rs ⟨a, p, ys, rfl, rfl, .inl (SqL.of q), hz2, yd.val st repS⟩
      · cases e
    · cases e
  · cases e
theorem e_join (ha : PE X a (TR (gv X ca) W fa)) (hb : PE X e (TR (gv X ca) W fb)) (hs : starEach [e] X.env = [(false, eval e X.env)] := by rfl) (hbase : attributeBase a "join" X.env (eval a X.env) = eval a X.env := by rfl) (hline : (apos.endLine == pos.line) = true := by rfl) :
    PE X (.Call (.Attribute a "join" apos) [e] [] pos) (T (gv X ca) W (sm1 joinG fa fb)) :=
  e_sm1 F.slot_str_join F.type_str_join sr_join ha hb hs hbase hline
end

/-! ### min of data -/
def minDD (x : D) (xs : List D) : D := xs.foldl (fun a y => if dataLt (toPy y) (toPy a) = true then y else a) x
theorem minDD_py : ∀ (xs : List D) (x : D), toPy (minDD x xs) = PySem.W.minD (toPy x) (xs.map toPy)
  | [], x => rfl
  | y :: xs, x => by
    have ih := minDD_py xs (if dataLt (toPy y) (toPy x) = true then y else x)
    unfold minDD PySem.W.minD at ih ⊢
    rw [List.map_cons, List.foldl_cons, List.foldl_cons, ih]
    congr 1
    split <;> rfl
theorem minDD_mem : ∀ (xs : List D) (x : D), minDD x xs = x ∨ minDD x xs ∈ xs
  | [], x => .inl rfl
  | y :: xs, x => by
    have ih := minDD_mem xs (if dataLt (toPy y) (toPy x) = true then y else x)
    unfold minDD at ih ⊢
    rw [List.foldl_cons]
    rcases ih with ih | ih
    · rw [ih]
      split
      · exact .inr (by simp)
      · exact .inl rfl
    · exact .inr (by simp [ih])
def minOk (ds : List D) : Bool := ds.all (okD 16) && ds.all (fun x => ds.all fun y => alike (toPy x) (toPy y)) && ds.all (fun x => match x with | .non => false | _ => true)
def minF : List O → Option O
  | [o] => match o.dsT.or o.dsL with
    | some (d :: ds) => if minOk (d :: ds) = true then some (.val (minDD d ds)) else none
    | _ => none
  | _ => none
section
variable {X : Cx} {ca : Ca}
theorem minOk_is {ds : List D} (h : minOk ds = true) : (∀ d ∈ ds, okD 16 d = true) ∧ PySem.W.AlikeAll (ds.map toPy) := by
  unfold minOk at h
  rw [Bool.and_eq_true, Bool.and_eq_true, List.all_eq_true, List.all_eq_true, List.all_eq_true] at h
  obtain ⟨⟨h1, h2⟩, h3⟩ := h
  refine ⟨h1, fun a ha b hb => ?_, fun a ha => ?_⟩
  · obtain ⟨x, hx, rfl⟩ := List.mem_map.mp ha
    obtain ⟨y, hy, rfl⟩ := List.mem_map.mp hb
    exact List.all_eq_true.mp (h2 x hx) y hy
  · obtain ⟨x, hx, rfl⟩ := List.mem_map.mp ha
    have o := h1 x hx
    have n := h3 x hx
    cases x <;> first
      | (simp [toPy]; done)
      | (cases n; done)
      | (simp [okD] at o; done)
theorem RepVs.item {g : Gv} {F : Hp} {i : Nat} {v : Value} : ∀ {ds : List D} {vs : List V} {us : List Value}, RepVs g F ds vs → Vals vs us → us[i]? = some v → ∃ d w, ds[i]? = some d ∧ RelV w v ∧ RepV g F d w := by
  intro ds vs us r q e
  have hl := r.length
  have hi : i < us.length := (List.getElem?_eq_some_iff.mp e).1
  rw [← q.length, hl] at hi
  obtain ⟨w, hw, rw'⟩ := r.get (i := i) (d := ds[i]) (by simp [hi])
  obtain ⟨u, hu, ru⟩ := q.get hw
  rw [e] at hu; cases hu
  exact ⟨ds[i], w, by simp [hi], ru, rw'⟩
theorem cb_min (hc : X.calm = true) (hu : X.A.units + 65 < cLine) : CallR X (.builtin "min") (rF (gv X ca) minF) := by
  intro pins s σ H xs us Q I rv ⟨F, Gx, σ', ρ, os, res, st, vw, e, yd⟩
  unfold minF at e
  split at e
  · rename_i o
    obtain ⟨v, S, rfl, r⟩ := view1 vw
    obtain ⟨u, rfl, ru⟩ := vals1 rv
    split at e
    · rename_i d ds hd
      split at e
      · rename_i hm
        cases e
        obtain ⟨ok, al⟩ := minOk_is hm
        have dep : PyData.depthAll ((d :: ds).map toPy) ≤ 16 := by rw [← toPys_map]; exact (okDs_lay 16 _ ok).2
        have fin : ∀ {vs : List V} {its : List Value}, RepVs (gv X ca) F (d :: ds) vs → Vals vs its → ∀ (i : Nat) (v : Value) (h' : Heap) (tk : Nat) (bs : List Addr), its.toArray[i]? = some v → Reads h' v (PySem.W.minD (toPy d) (ds.map toPy)) bs → (∀ b o, s.heap.get? b = some o → h'.get? b = some o) → EP X pins σ Q v { s with heap := h', toks := tk } := by
          intro vs its rr vl i v h' tk bs e1 e2 kp
          have I1 : Inv X pins σ H { s with heap := h', toks := tk } := I.kept kp
          obtain ⟨dd, w, e3, rw', rd⟩ := RepVs.item rr vl (by simpa using e1)
          have hmem : dd ∈ d :: ds := List.mem_of_getElem? e3
          obtain ⟨as, rd2⟩ := Dp.reads I1 _ w v (dp_of 16 dd w st.le (ok dd hmem) rd) rw'
          have hmin : minDD d ds ∈ d :: ds := by
            rcases minDD_mem ds d with h | h
            · rw [h]; simp
            · simp [h]
          have q := PySem.W.alike_unique (toPy dd) (PySem.W.minD (toPy d) (ds.map toPy)) v as bs (by rw [← minDD_py]; exact al.1 _ (List.mem_map_of_mem hmem) _ (List.mem_map_of_mem hmin)) rd2 e2
          rw [← minDD_py] at q
          have q2 := toPy_inj 16 16 dd (minDD d ds) (ok dd hmem) (ok _ hmin) q
          subst q2
          exact ⟨w, H, I1, rw', yd.val st rd⟩
        rcases Option.or_eq_some_iff.mp hd with hd | ⟨_, hd⟩
        · obtain ⟨p, vs, rfl, q, rr⟩ := dsT_ok st.le r hd
          cases ru
          obtain ⟨its, vl, pl, hz⟩ := I.tuple q
          obtain ⟨as, rda⟩ := Dp.readsAll I _ vs its (dps_of 16 (d :: ds) vs st.le ok rr) vl
          rw [toPys_map] at rda
          exact PySem.W.min_tuple_data (I.ok.hd hc) pl (by simpa using rda) al (by have := dep; rw [List.map_cons] at this; omega) (fin rr vl)
        · obtain ⟨p, vs, rfl, q, rr⟩ := dsL_ok st.le r hd
          cases ru
          obtain ⟨its, vl, pl, hz⟩ := I.list (SqL.of q)
          obtain ⟨as, rda⟩ := Dp.readsAll I _ vs its (dps_of 16 (d :: ds) vs st.le ok rr) vl
          rw [toPys_map] at rda
          exact PySem.W.min_list_data (I.ok.hd hc) pl.isList (by simpa using rda) al (by have := dep; rw [List.map_cons] at this; omega) (fin rr vl)
      · cases e
    · cases e
  · cases e
end
end PF

set_option Elab.async false
set_option linter.all false
set_option maxRecDepth 100000
set_option maxHeartbeats 2000000
namespace PF
open PySem PySem.Spec PyProof.Rows L2

/-! ### enumerate -/
section
open Sem (wp)
set_option maxHeartbeats 4000000 in
theorem enum_make {w0 : Value} {cell : Obj} {There : Heap → Prop} (Bg : Begins w0 cell There) :
    Meets (Builtin.«enumerate.__new__» ⟨[.type "enumerate", w0], []⟩)
      (fun _ R s => There s.heap ∧ R (.ok (.ret (.ref (s.heap.push cell).objs.size)))
        { s with heap := Heap.push (s.heap.push cell) { cls := .type "enumerate", data := .fields #[.none, .bool false, .ref s.heap.objs.size, rawInt 0, .none, .none] } }) :=
  .of_wp fun P0 W0 A0 R0 st0 hyp => by
    obtain ⟨hp, gn, dr, tk, oo⟩ := st0
    obtain ⟨there, hyp⟩ := hyp
    have hsub := sub_enumerate
    have hit : ∀ {A' : Around} {E' : Value → Shared → Prop} {Q' : Value → Shared → Prop}, Q' (.ref hp.objs.size) ⟨hp.push cell, gn, dr, tk, oo⟩ →
        wpAny (model P0 W0) A' (pyIter w0) Q' E' ⟨hp, gn, dr, tk, oo⟩ := fun z => Bg.iter P0 W0 _ _ ⟨hp, gn, dr, tk, oo⟩ _ there z
    wp_walk using hit
    refine wpAny_stack_any fun stk => wpAny_pure ?_
    split
    · rename_i cc _ _ _ _ _
      cases (cc == Value.type "enumerate") <;> (wp_walk using hit; exact ⟨_, rfl, hyp⟩)
    · (wp_walk using hit; exact ⟨_, rfl, hyp⟩)
theorem enum_call {prog : Program} {w : World} {A : Around} {E : Value → Shared → Prop} {s : Shared} {v : Value} {cell : Obj} {There : Heap → Prop} {Q : Value → Shared → Prop} (Bg : Begins v cell There) (th : There s.heap)
    (q : ∀ h', IsEnum h' (s.heap.objs.size + 1) s.heap.objs.size 0 .none → h'.get? s.heap.objs.size = some cell → (∀ b o, s.heap.get? b = some o → h'.get? b = some o) → Q (.ref (s.heap.objs.size + 1)) { s with heap := h' }) :
    wpAny (model prog w) A (call (.type "enumerate") [v]) Q E s := by
  refine callType_new F.called_enumerate (by decide) (F.typeCall_enumerate_1 _) (F.newCall_enumerate_1 _) (fun ob => F.args_object_init_2 ob _) F.entry_enumerate_new (enum_make Bg) ⟨th, ?_⟩
  have sz : (s.heap.push cell).objs.size = s.heap.objs.size + 1 := Heap.size_push ..
  have en : IsEnum (Heap.push (s.heap.push cell) { cls := .type "enumerate", data := .fields #[.none, .bool false, .ref s.heap.objs.size, rawInt 0, .none, .none] }) (s.heap.objs.size + 1) s.heap.objs.size 0 .none := by
    have z := Heap.get?_push_size (s.heap.push cell) (o := { cls := .type "enumerate", data := .fields #[.none, .bool false, .ref s.heap.objs.size, rawInt 0, .none, .none] }) rfl
    rw [sz] at z
    exact z
  show _ ∧ _
  rw [sz]
  exact ⟨⟨_, en, rfl⟩, q _ en (Heap.get?_push_of_some _ (Heap.get?_push_size _ Bg.free)) fun b o z => Heap.get?_push_of_some _ (Heap.get?_push_of_some _ z)⟩
end
/-- the turns over a tuple's, a text's items with their numbers -/
def IteT (K : PySem.W.Frag) (a : Addr) (xs : List V) : It :=
  ⟨fun i H => SqT K H a xs ∧ i < xs.length, fun i H v H' => ∃ T x, v = .ref T ∧ H T = none ∧ H' = upd H T (.tup [.int (i : Nat), x]) ∧ xs[i]? = some x, fun i H => SqT K H a xs ∧ xs.length ≤ i⟩
def IteS (z : Str) : It :=
  ⟨fun i _ => i < z.cps.size, fun i H v H' => ∃ T c, v = .ref T ∧ H T = none ∧ H' = upd H T (.tup [.int (i : Nat), .str ⟨#[c]⟩]) ∧ z.cps[i]? = some c, fun i _ => z.cps.size ≤ i⟩
theorem turn_enumT {P : Program} {w : World} {K : PySem.W.Frag} {elts : List Expr} {kk : Nat} {tpos : Pos} (a e it : Addr) (xs : List V) :
    Turn P w K (.Tuple elts kk tpos) (IteT K a xs) [e, it] e (fun i h => (∃ old, IsEnum h e it (0 + (i : Int)) old) ∧ h.IsTupleIter it a i ∧ e ≠ it ∧ e ≠ a ∧ a ≠ it ∧ i ≤ xs.length) where
  mem := by simp
  obj := fun i h st b hb => by
    obtain ⟨⟨old, he⟩, ⟨o, ho, hc, hd⟩, _⟩ := st
    rcases List.mem_cons.mp hb with rfl | hb
    · exact ⟨_, he, fun v q => nomatch q⟩
    · rw [List.mem_singleton.mp hb]; exact ⟨o, ho, fun v q => by rw [hd] at q; cases q⟩
  keep := fun i h h' ⟨⟨old, he⟩, hi, r⟩ k => ⟨⟨old, k e (by simp) _ he⟩, hi.at fun o q => k it (by simp) o q, r⟩
  item := by
    intro X hP hw hK hc i pins s σ H E I hf st hg
    subst hP hw hK
    obtain ⟨he, hit, hne, hea, hai, hle⟩ := st
    obtain ⟨hq, hi⟩ := hg
    obtain ⟨its, rv, p, hz⟩ := I.tuple hq
    have hn : its.toArray.size = xs.length := by rw [List.size_toArray, rv.length]
    have D := Draws.tuple (prog := X.prog) (w := X.w) (A := X.A.in1) (I.ok.hd hc) it a hai its.toArray
    have G := GoesN.enumFrom (elts := elts) (x1 := kk) (pos := tpos) 0 D e hne (by simp [hne, hea]) (by simp)
    refine G.goes i s (fun v s2 => ∃ x H', Inv X pins σ H' s2 ∧ RelV x v ∧ (IteT X.K a xs).yld i H x H' ∧ ((∃ old, IsEnum s2.heap e it (0 + ((i + 1 : Nat) : Int)) old) ∧ s2.heap.IsTupleIter it a (i + 1) ∧ e ≠ it ∧ e ≠ a ∧ a ≠ it ∧ i + 1 ≤ xs.length) ∧ ∀ b ∈ [e, it], H' b = none) E (by omega) ⟨he, hit, p⟩ fun v h' tk hY hst hk htk => ?_
    obtain ⟨T, t, u, ev, hT, hu, hTup⟩ := hY
    subst ev
    obtain ⟨y, hy, ry⟩ : ∃ y, xs[i]? = some y ∧ RelV y u := by
      obtain ⟨u', h1, h2⟩ := rv.get (i := i) (x := xs[i]) (by simp [hi])
      have h3 : its[i]? = some u := by simpa using hu
      rw [h1] at h3; cases h3
      exact ⟨xs[i], by simp [hi], h2⟩
    have hel : e < s.heap.objs.size := by obtain ⟨_, q⟩ := he; exact Heap.lt_size q
    have hil : it < s.heap.objs.size := by obtain ⟨_, q, _⟩ := hit; exact Heap.lt_size q
    have new : ObjOk X.prog X.w (upd H T (.tup [.int (i : Nat), y])) h' T (.tup [.int (i : Nat), y]) := by
      have e0 : (0 : Int) + (i : Int) = ((i : Nat) : Int) := by omega
      rw [e0] at hTup
      exact ⟨by show 2 ≤ sizeLine; decide, [.int i t, u], .cons ⟨_, rfl⟩ (.cons ry .nil), hTup⟩
    have I1 : Inv X pins σ (upd H T (.tup [.int (i : Nat), y])) { s with heap := h', toks := tk } := I.turnedNew (ch := [e, it]) hk hf hT new
    refine ⟨.ref T, _, I1, rfl, ⟨T, y, rfl, I.hok.fresh hT, rfl, hy⟩, ⟨hst.1, hst.2.1, hne, hea, hai, hi⟩, fun b hb => ?_⟩
    have hb' : b < s.heap.objs.size := by
      rcases List.mem_cons.mp hb with rfl | hb
      · exact hel
      · rw [List.mem_singleton.mp hb]; exact hil
    rw [upd_ne (Nat.ne_of_lt (Nat.lt_of_lt_of_le hb' hT))]
    exact (hf b hb).1
  done := by
    intro X hP hw hK hc i pins s σ H E I hf st hg
    subst hP hw hK
    obtain ⟨he, hit, hne, hea, hai, hle⟩ := st
    obtain ⟨hq, hi⟩ := hg
    obtain ⟨its, rv, p, hz⟩ := I.tuple hq
    have hn : its.toArray.size = xs.length := by rw [List.size_toArray, rv.length]
    have D := Draws.tuple (prog := X.prog) (w := X.w) (A := X.A.in1) (I.ok.hd hc) it a hai its.toArray
    have G := GoesN.enumFrom (elts := elts) (x1 := kk) (pos := tpos) 0 D e hne (by simp [hne, hea]) (by simp)
    have ei : i = its.toArray.size := by omega
    refine G.stops s (fun s1 => Inv X pins σ H s1) E (by rw [← ei]; exact ⟨he, hit, p⟩) fun h' tk hk htk => ?_
    have I1 := I.turnedL (ch := [e, it]) (h' := h') (t' := tk) hk hf
    exact I1
  self := fun A i s Q E st h => let ⟨⟨_, he⟩, _⟩ := st; wpAny_pyIter_enum he h
theorem turn_enumS {P : Program} {w : World} {K : PySem.W.Frag} {elts : List Expr} {kk : Nat} {tpos : Pos} (z : Str) (tz : Tok) (e it : Addr) :
    Turn P w K (.Tuple elts kk tpos) (IteS z) [e, it] e (fun i h => (∃ old, IsEnum h e it (0 + (i : Int)) old) ∧ h.IsStrIter it (strIterType z) z tz i ∧ e ≠ it ∧ i ≤ z.cps.size) where
  mem := by simp
  obj := fun i h st b hb => by
    obtain ⟨⟨old, he⟩, ⟨o, ho, hc, hd⟩, _⟩ := st
    rcases List.mem_cons.mp hb with rfl | hb
    · exact ⟨_, he, fun v q => nomatch q⟩
    · rw [List.mem_singleton.mp hb]; exact ⟨o, ho, fun v q => by rw [hd] at q; cases q⟩
  keep := fun i h h' ⟨⟨old, he⟩, ⟨o, ho, hc, hd⟩, r⟩ k => ⟨⟨old, k e (by simp) _ he⟩, ⟨o, k it (by simp) o ho, hc, hd⟩, r⟩
  item := by
    intro X hP hw hK hc i pins s σ H E I hf st hg
    subst hP hw hK
    obtain ⟨he, hit, hne, hle⟩ := st
    have hg : i < z.cps.size := hg
    have D := Draws.text (prog := X.prog) (w := X.w) (A := X.A.in1) (I.ok.hd hc) it z tz
    have G := GoesN.enumFrom (elts := elts) (x1 := kk) (pos := tpos) 0 D e hne (by simp [hne]) (by simp)
    refine G.goes i s (fun v s2 => ∃ x H', Inv X pins σ H' s2 ∧ RelV x v ∧ (IteS z).yld i H x H' ∧ ((∃ old, IsEnum s2.heap e it (0 + ((i + 1 : Nat) : Int)) old) ∧ s2.heap.IsStrIter it (strIterType z) z tz (i + 1) ∧ e ≠ it ∧ i + 1 ≤ z.cps.size) ∧ ∀ b ∈ [e, it], H' b = none) E hg ⟨he, hit⟩ fun v h' tk hY hst hk htk => ?_
    obtain ⟨T, t, u, ev, hT, ⟨c, u2, hu, eu⟩, hTup⟩ := hY
    subst ev eu
    have hel : e < s.heap.objs.size := by obtain ⟨_, q⟩ := he; exact Heap.lt_size q
    have hil : it < s.heap.objs.size := by obtain ⟨_, q, _⟩ := hit; exact Heap.lt_size q
    have new : ObjOk X.prog X.w (upd H T (.tup [.int (i : Nat), .str ⟨#[c]⟩])) h' T (.tup [.int (i : Nat), .str ⟨#[c]⟩]) := by
      have e0 : (0 : Int) + (i : Int) = ((i : Nat) : Int) := by omega
      rw [e0] at hTup
      exact ⟨by show 2 ≤ sizeLine; decide, [.int i t, .str ⟨#[c]⟩ u2], .cons ⟨_, rfl⟩ (.cons ⟨_, rfl⟩ .nil), hTup⟩
    have I1 : Inv X pins σ (upd H T (.tup [.int (i : Nat), .str ⟨#[c]⟩])) { s with heap := h', toks := tk } := I.turnedNew (ch := [e, it]) hk hf hT new
    refine ⟨.ref T, _, I1, rfl, ⟨T, c, rfl, I.hok.fresh hT, rfl, hu⟩, ⟨hst.1, hst.2, hne, hg⟩, fun b hb => ?_⟩
    have hb' : b < s.heap.objs.size := by
      rcases List.mem_cons.mp hb with rfl | hb
      · exact hel
      · rw [List.mem_singleton.mp hb]; exact hil
    rw [upd_ne (Nat.ne_of_lt (Nat.lt_of_lt_of_le hb' hT))]
    exact (hf b hb).1
  done := by
    intro X hP hw hK hc i pins s σ H E I hf st hg
    subst hP hw hK
    obtain ⟨he, hit, hne, hle⟩ := st
    have hg : z.cps.size ≤ i := hg
    have D := Draws.text (prog := X.prog) (w := X.w) (A := X.A.in1) (I.ok.hd hc) it z tz
    have G := GoesN.enumFrom (elts := elts) (x1 := kk) (pos := tpos) 0 D e hne (by simp [hne]) (by simp)
    have ei : i = z.cps.size := by omega
    refine G.stops s (fun s1 => Inv X pins σ H s1) E (by rw [← ei]; exact ⟨he, hit⟩) fun h' tk hk htk => ?_
    exact I.turnedL (ch := [e, it]) (h' := h') (t' := tk) hk hf
  self := fun A i s Q E st h => let ⟨⟨_, he⟩, _⟩ := st; wpAny_pyIter_enum he h
def iEn (K : PySem.W.Frag) (te : TE) : L2.TI := fun σ H R => te σ H fun x H1 => (∃ a xs, x = .ref a ∧ SqL K H1 a xs ∧ R (Ite K a) H1) ∨ (∃ a xs, x = .ref a ∧ SqT K H1 a xs ∧ R (IteT K a xs) H1) ∨ ∃ z, x = .str z ∧ R (IteS z) H1
section
variable {X : Cx} {e : Expr} {te : TE} {p pos tpos : Pos} {elts : List Expr} {kk : Nat}
theorem pi_enumA (hg : Gl X "enumerate") (hm : X.mg "enumerate" = none) (he : PE X e te) (hs : starEach [e] X.env = (false, eval e X.env) :: starEach [] X.env := by rfl) :
    PI X (.Tuple elts kk tpos) (.Call (.Name "enumerate" p) [e] [] pos) (iEn X.K te) := by
  refine ⟨fun pins s σ H R I h => ?_⟩
  refine Call_ (ld_blt I hg hm boot_enumerate (PyProof.Rows.callWith_type1 (thn ((pa_cons he pa_nil hs).run pos pins s σ H (fun vs H' => match vs with | [x] => ((∃ a xs, x = .ref a ∧ SqL X.K H' a xs ∧ R (Ite X.K a) H') ∨ (∃ a xs, x = .ref a ∧ SqT X.K H' a xs ∧ R (IteT X.K a xs) H') ∨ ∃ z, x = .str z ∧ R (IteS z) H') | _ => False) I h) fun us s1 ⟨vs, H1, I1, r1, q⟩ => ?_) hs rfl))
  match vs, q with
  | [x], q =>
    obtain ⟨u, rfl, ru⟩ := vals1 r1
    have fin : ∀ {h' : Heap} {tn : Nat → Heap → Prop} {J : It}, (∀ b o, s1.heap.get? b = some o → h'.get? b = some o) → Turn X.prog X.w X.K (.Tuple elts kk tpos) J [s1.heap.objs.size + 1, s1.heap.objs.size] (s1.heap.objs.size + 1) tn → tn 0 h' → R J H1 → PIE X pins σ (.Tuple elts kk tpos) R (.ref (s1.heap.objs.size + 1)) { s1 with heap := h' } := by
      intro h' tn J hk T st q
      refine ⟨s1.heap.objs.size + 1, _, tn, J, H1, rfl, I1.kept (t' := s1.toks) hk, T, st, fun b hb => ?_, q⟩
      have hle : s1.heap.objs.size ≤ b := by
        rcases List.mem_cons.mp hb with rfl | hb
        · exact Nat.le_add_right _ _
        · rw [List.mem_singleton.mp hb]; exact Nat.le_refl _
      exact I1.fpOk hle (I1.hok.fresh hle)
    rcases q with ⟨a, xs, rfl, hq, q⟩ | ⟨a, xs, rfl, hq, q⟩ | ⟨z, rfl, q⟩
    · cases ru
      obtain ⟨its, rv, p', hz⟩ := I1.list hq
      exact call_enumerate_list p'.isList fun h' he hit hsz hk => wpAny_pyIter_enum he (fin hk (turn_enum a _ _) ⟨⟨.none, he⟩, hit, Nat.succ_ne_self _⟩ q)
    · cases ru
      obtain ⟨its, rv, p', hz⟩ := I1.tuple hq
      have ha : a < s1.heap.objs.size := by obtain ⟨o, ho, _⟩ := p'; exact Heap.lt_size ho
      exact enum_call (begins_tuple a its.toArray) p' fun h' he hit hk => wpAny_pyIter_enum he (fin hk (turn_enumT a _ _ xs) ⟨⟨.none, he⟩, ⟨_, hit, rfl, rfl⟩, Nat.succ_ne_self _, Nat.ne_of_gt (Nat.lt_succ_of_lt ha), Nat.ne_of_lt ha, Nat.zero_le _⟩ q)
    · obtain ⟨t, rfl⟩ := ru
      exact enum_call (begins_text z t) trivial fun h' he hit hk => wpAny_pyIter_enum he (fin hk (turn_enumS z t _ _) ⟨⟨.none, he⟩, ⟨_, hit, rfl, rfl⟩, Nat.succ_ne_self _, Nat.zero_le _⟩ q)
end
section
variable {g : Gv} {C : Hp → Hp → Prop} {F0 : Hp} {ds : List D} {vs : List V} {a : Addr}
theorem itg_enumT (hb : SqT g.K F0 a vs) (r : RepVs g F0 ds vs) : ItG g (IteT g.K a vs) (Fz F0) (enumD ds) where
  go := fun i H F hi z => ⟨SqT.mono z.2 (SqT.mono z.1 hb), by rw [r.length]; simpa [enumD] using hi⟩
  stop := fun H F z => ⟨SqT.mono z.2 (SqT.mono z.1 hb), by rw [r.length]; simp [enumD]⟩
  yld := fun i d H F Gx σ ρ L x H' hd z st y => by
    obtain ⟨T, v, rfl, hT, rfl, y⟩ := y
    obtain ⟨x, hx, rfl⟩ := enum_at hd
    obtain ⟨u, h1, h2⟩ := r.get hx
    rw [h1] at y; cases y
    exact newPair st hT repI (RepV.mono g z.1 _ _ h2)
theorem itg_enumS (x : Str) : ItG g (IteS x) C (enumD (signsD x)) where
  go := fun i H F hi z => by
    show i < x.cps.size
    simpa [enumD, signsD] using hi
  stop := fun H F z => by
    show x.cps.size ≤ _
    simp [enumD, signsD]
  yld := fun i d H F Gx σ ρ L v H' hd z st y => by
    obtain ⟨T, c, rfl, hT, rfl, y⟩ := y
    obtain ⟨w, hx, rfl⟩ := enum_at hd
    have hd' : w = .str ⟨#[c]⟩ := by
      unfold signsD at hx
      rw [List.getElem?_map, Array.getElem?_toList, y] at hx
      cases hx; rfl
    subst hd'
    exact newPair st hT repI repS
end
def enI (f : M O) : M (List D) := f.bind fun o => M.of (o.its.map enumD)
section
variable {W : WX} {X : Cx} {ca : Ca} {e : Expr} {p pos tpos : Pos} {elts : List Expr} {kk : Nat}
theorem i_enum {f : M O} (hg : Gl X "enumerate") (hm : X.mg "enumerate" = none) (he : PE X e (T (gv X ca) W f)) (hs : starEach [e] X.env = (false, eval e X.env) :: starEach [] X.env := by rfl) : PI X (.Tuple elts kk tpos) (.Call (.Name "enumerate" p) [e] [] pos) (Ti (gv X ca) W (enI f)) :=
  PI.imp (pi_enumA hg hm he hs) fun σ H R ⟨F, Gx, ρ, st, r⟩ => ⟨F, Gx, ρ, st, r.bind.mono fun o H1 F1 ρ1 le r1 v st1 => by
    obtain ⟨ds', e, q⟩ := r1.of
    obtain ⟨ds, e', rfl⟩ := Option.map_eq_some_iff.mp e
    obtain ⟨F2, le2, st2, h⟩ := its_ok st1 e'
    rcases h with ⟨a, vs, rfl, hq, rv⟩ | ⟨a, vs, rfl, hq, rv⟩ | ⟨x, rfl, rfl⟩
    · exact .inl ⟨a, vs, rfl, SqL.of (st2.le _ _ hq), q H1 F1 (Le.refl _) _ F2 le2 st2 (itg_enumL.imp (at_fz hq rv))⟩
    · exact .inr (.inl ⟨a, vs, rfl, SqT.mono st2.le hq, q H1 F1 (Le.refl _) _ F2 le2 st2 (itg_enumT hq rv)⟩)
    · exact .inr (.inr ⟨x, rfl, q H1 F1 (Le.refl _) _ F2 le2 st2 (itg_enumS x)⟩)⟩
end
end PF

set_option Elab.async false
set_option linter.all false
set_option maxRecDepth 100000
set_option maxHeartbeats 2000000
namespace PF
open PySem PySem.Spec PyProof.Rows L2

/-! ### [.. for .. in .. if .. for .. in .. if ..] -/
/-- one source's turns, the items pushed behind os0 -/
theorem lc_step {g : Gv} {h : O → M Unit} {ft : M Bool} {fe : M O} {own : List Nat} {J : It} {ds : List D} {C : Hp → Hp → Prop} {F Gx H : Hp} {σ : L2.St} {ρ : Sls} {Dd : Addr} {os0 : List O} {Pf : Hp → Prop} {n : Nat} (hn : n = σ.length) (it : ItG g J C ds)
    (hC : ∀ H' F' σ' ρ' L', Le F F' → StG g H' F' Gx σ' ρ' L' → C H' F') (st : StG g H F Gx (L2.wipe σ own) ρ [(.ref Dd, .lst os0)]) (hz : os0.length + ds.length ≤ lim)
    (r : Okk (lcL own h ft fe ds) F ρ fun os H' F' ρ' => StG g H' F' Gx (L2.wipe σ own) ρ' [(.ref Dd, .lst (os0 ++ os))] → Pf H') :
    ∃ Wv : Nat → Nat → Hp → Prop, (∃ m, Wv 0 m H) ∧ ∀ i m H, Wv i m H → (J.stop i H ∧ Pf H) ∨ (J.go i H ∧ ∃ Nx : Hp → Prop, (∀ H', Nx H' → ∃ m', m' < m ∧ Wv (i + 1) m' H') ∧
      ∀ x H', J.yld i H x H' → Tg g W0 (others n own) h x (L2.wipe σ own) H' fun σ2 H2 => L2.wipe σ2 own = L2.wipe σ own ∧ Tt g W0 ft σ2 H2 fun b H3 =>
        if b = true then T g W0 fe σ2 H3 fun y H4 => ∃ acc, H4 Dd = some (.lst acc) ∧ acc.length < sizeLine ∧ Nx (upd H4 Dd (.lst (acc ++ [y]))) else Nx H3) := by
  subst hn
  have wl : (L2.wipe σ own).length = σ.length := wipe_length σ own
  have ww : L2.wipe (L2.wipe σ own) own = L2.wipe σ own := by
    refine List.ext_getElem? fun i => ?_
    rw [wipe_get, wipe_get, wl]
    by_cases q : i ∈ own <;> simp [q]
  refine ⟨fun i m H1 => m = ds.length - i ∧ i ≤ ds.length ∧ ∃ F1 ρ1 os, Le F F1 ∧ os.length ≤ os0.length + i ∧ StG g H1 F1 Gx (L2.wipe σ own) ρ1 [(.ref Dd, .lst os)] ∧
    Okk (lcL own h ft fe (ds.drop i)) F1 ρ1 fun rest H' F' ρ' => StG g H' F' Gx (L2.wipe σ own) ρ' [(.ref Dd, .lst (os ++ rest))] → Pf H',
    ⟨ds.length, by simp, Nat.zero_le _, F, ρ, os0, Le.refl F, Nat.le_refl _, st, r⟩, ?_⟩
  rintro i m H1 ⟨rfl, hi, F1, ρ1, os, le1, hos, st1, r1⟩
  have c1 := hC H1 F1 _ ρ1 _ le1 st1
  by_cases hlt : i < ds.length
  · refine .inr ⟨it.go i H1 F1 hlt c1, fun H' => ∃ F' ρ' os', Le F F' ∧ os'.length ≤ os0.length + (i + 1) ∧ StG g H' F' Gx (L2.wipe σ own) ρ' [(.ref Dd, .lst os')] ∧
      Okk (lcL own h ft fe (ds.drop (i + 1))) F' ρ' (fun rest H' F' ρ' => StG g H' F' Gx (L2.wipe σ own) ρ' [(.ref Dd, .lst (os' ++ rest))] → Pf H'),
      fun H' ⟨F', ρ', os', a, b, c, d⟩ => ⟨ds.length - (i + 1), by omega, rfl, hlt, F', ρ', os', a, b, c, d⟩, fun x H' y => ?_⟩
    obtain ⟨F2, le2, st2, rx⟩ := it.yld i ds[i] H1 F1 Gx _ ρ1 _ x H' (by simp [hlt]) c1 st1 y
    have e : ds.drop i = ds[i] :: ds.drop (i + 1) := List.drop_eq_getElem_cons hlt
    rw [e] at r1
    have r2 : Okk ((h (.val ds[i])).bind fun _ => ft.bind fun b => if b = true then fe.bind fun o => (wpM own).bind fun _ => (lcL own h ft fe (ds.drop (i + 1))).bind fun os => M.pure (o :: os) else (wpM own).bind fun _ => lcL own h ft fe (ds.drop (i + 1))) F2 ρ1
      (fun rest H' F' ρ' => StG g H' F' Gx (L2.wipe σ own) ρ' [(.ref Dd, .lst (os ++ rest))] → Pf H') := r1.le le2
    obtain ⟨Gx1, st3, back⟩ := st2.asideS
    refine ⟨F2, Gx1, ρ1, .val ds[i], st3.ofVal rx, ?_⟩
    refine (Okk.rs r2.bind).mono fun _ H3 F3 σ3 ρ3 le3 p3 r5 st4 => ?_
    have p3' : Pin (others (L2.wipe σ own).length own) (L2.wipe σ own) σ3 := by rw [wl]; exact p3
    have w3 : L2.wipe σ3 own = L2.wipe σ own := (wipe_pin p3').trans ww
    refine ⟨w3, F3, Gx1, ρ3, st4, Okk.rn (Okk.mono r5.bind fun b H4 F4 ρ4 le4 r6 st5 => ?_)⟩
    cases b with
    | true =>
      simp only [if_true] at r6
      refine ⟨F4, Gx1, ρ4, st5, Okk.rn (Okk.mono r6.bind fun o H5 F5 ρ5 le5 r7 v st6 => ?_)⟩
      have st7 := back H5 F5 _ ρ5 _ ((le3.trans le4).trans le5) st6
      obtain ⟨acc, ha, hl, st8⟩ := StG.push (L := []) st7
      refine ⟨acc, ha, by rw [hl, sizeLine_eq]; unfold lim at hz; omega, F5, wipeR ρ5 own, os ++ [o], ((le1.trans le2).trans (le3.trans le4)).trans le5, by simp; omega, ?_, ?_⟩
      · have st9 := st8.wipe own
        rw [w3] at st9
        exact st9
      · have r8 := r7.bind.ok (a := ()) (ρ' := wipeR ρ5 own) rfl H5 F5 (Le.refl _)
        refine Okk.mono r8.bind fun rest H' F' ρ' _ q => ?_
        have q2 := q.pure H' F' (Le.refl _)
        rw [List.append_assoc]
        exact q2
    | false =>
      simp only [Bool.false_eq_true, if_false] at r6
      have st7 := back H4 F4 _ ρ4 _ (le3.trans le4) st5
      have st9 := st7.wipe own
      rw [w3] at st9
      have r8 := r6.bind.ok (a := ()) (ρ' := wipeR ρ4 own) rfl H4 F4 (Le.refl _)
      exact ⟨F4, wipeR ρ4 own, os, (le1.trans le2).trans (le3.trans le4), by omega, st9, r8⟩
  · have e : i = ds.length := by omega
    subst e
    rw [List.drop_length] at r1
    refine .inl ⟨it.stop H1 F1 c1, ?_⟩
    have r2 : Okk (M.pure ([] : List O)) F1 ρ1 fun rest H' F' ρ' => StG g H' F' Gx (L2.wipe σ own) ρ' [(.ref Dd, .lst (os ++ rest))] → Pf H' := r1
    have q := r2.pure H1 F1 (Le.refl _)
    rw [List.append_nil] at q
    exact q st1
def lc2L (vs vs1 : List Nat) (h : O → M Unit) (ft : M Bool) (fi1 : M (List D)) (h1 : O → M Unit) (ft1 : M Bool) (fe : M O) : Nat → List D → M (List O)
  | _, [] => M.pure []
  | n, d :: ds => (h (.val d)).bind fun _ => ft.bind fun b => if b = true then fi1.bind fun ds1 => if n + ds1.length ≤ lim then (wpM vs1).bind fun _ => (lcL vs1 h1 ft1 fe ds1).bind fun os1 => (wpM vs).bind fun _ => (lc2L vs vs1 h ft fi1 h1 ft1 fe (n + os1.length) ds).bind fun os => M.pure (os1 ++ os)
      else M.stuck
    else (wpM vs).bind fun _ => lc2L vs vs1 h ft fi1 h1 ft1 fe n ds
def lc2F (vs vs1 : List Nat) (fi : M (List D)) (h : O → M Unit) (ft : M Bool) (fi1 : M (List D)) (h1 : O → M Unit) (ft1 : M Bool) (fe : M O) : M O := fi.bind fun ds => noX ((wpM vs).bind fun _ => (lc2L vs vs1 h ft fi1 h1 ft1 fe 0 ds).bind fun os => M.pure (.lst os))
theorem wipe_id2 (σ : L2.St) (own : List Nat) : L2.wipe (L2.wipe σ own) own = L2.wipe σ own := by
  refine List.ext_getElem? fun i => ?_
  rw [wipe_get, wipe_get, wipe_length]
  by_cases q : i ∈ own <;> simp [q]
theorem wipe_sub {σ τ : L2.St} {vs vs1 : List Nat} (hv : ∀ i ∈ vs1, i ∈ vs) (h : L2.wipe σ vs1 = L2.wipe τ vs1) : L2.wipe σ vs = L2.wipe τ vs := by
  have hl : σ.length = τ.length := by have := congrArg List.length h; simpa [wipe_length] using this
  refine List.ext_getElem? fun i => ?_
  rw [wipe_get, wipe_get, hl]
  by_cases q : i ∈ vs
  · simp [q]
  · have q1 : i ∉ vs1 := fun z => q (hv i z)
    have e := congrArg (·[i]?) h
    simp only [wipe_get, q1, if_false] at e
    simp [q, e]
theorem lc2_ask {g : Gv} {W : WX} {vs vs1 : List Nat} {fi fi1 : M (List D)} {h h1 : O → M Unit} {ft ft1 : M Bool} {fe : M O} {n : Nat} {σ : L2.St} {H : Hp} {Q : VK} (hn : n = σ.length) (hv : ∀ i ∈ vs1, i ∈ vs) (r : T g W (lc2F vs vs1 fi h ft fi1 h1 ft1 fe) σ H Q) :
    tLc2 (Ti g W fi) (Tg g W0 (others n vs) h) (Tt g W0 ft) (Ti g W0 fi1) (Tg g W0 (others n vs1) h1) (Tt g W0 ft1) (T g W0 fe) vs vs1 σ H Q := by
  subst hn
  obtain ⟨F0, Gx, ρ0, st0, r⟩ := r
  refine ⟨F0, Gx, ρ0, st0, r.bind.mono fun ds H1 F1 ρ1 le r1 J F le2 st it Dd hD => ?_⟩
  have r2 : Okk _ F ρ1 _ := (Okk.mono r1.okk fun o H' F' ρ' le q => q).le le2
  have r := r2.bind.ok (a := ()) (ρ' := wipeR ρ1 vs) rfl H1 F (Le.refl _)
  have wl : (L2.wipe σ vs).length = σ.length := wipe_length σ vs
  have st0 : StG g (upd H1 Dd (.lst [])) F Gx (L2.wipe σ vs) (wipeR ρ1 vs) [(.ref Dd, .lst [])] := ⟨(st.wipe vs).wf, (st.wipe vs).len, Good.newO (L := slL (L2.wipe σ vs) (wipeR ρ1 vs)) (st.wipe vs).gd hD fun S hS => by
    rw [RepO]; exact ⟨Dd, [], rfl, hS, upd_same, by rw [RepOs]⟩⟩
  refine ⟨fun i m H1 => m = ds.length - i ∧ i ≤ ds.length ∧ ∃ F1 ρ1 os, Le F F1 ∧ StG g H1 F1 Gx (L2.wipe σ vs) ρ1 [(.ref Dd, .lst os)] ∧
    Okk (lc2L vs vs1 h ft fi1 h1 ft1 fe os.length (ds.drop i)) F1 ρ1 fun rest H' F' ρ' => StG g H' F' Gx (L2.wipe σ vs) ρ' [(.ref Dd, .lst (os ++ rest))] → Q (.ref Dd) H',
    ⟨ds.length, by simp, Nat.zero_le _, F, _, [], Le.refl F, st0, Okk.mono r.bind fun os H' F' ρ' le q st' => q.pure H' F' (Le.refl _) _ st'.unwipe⟩, ?_⟩
  rintro i m H1 ⟨rfl, hi, F1, ρ1, os, le1, st1, r1⟩
  have c1 : Fz F H1 F1 := ⟨le1, st1.le⟩
  by_cases hlt : i < ds.length
  · refine .inr ⟨it.go i H1 F1 hlt c1, fun H' => ∃ F' ρ' os', Le F F' ∧ StG g H' F' Gx (L2.wipe σ vs) ρ' [(.ref Dd, .lst os')] ∧
      Okk (lc2L vs vs1 h ft fi1 h1 ft1 fe os'.length (ds.drop (i + 1))) F' ρ' (fun rest H' F' ρ' => StG g H' F' Gx (L2.wipe σ vs) ρ' [(.ref Dd, .lst (os' ++ rest))] → Q (.ref Dd) H'),
      fun H' ⟨F', ρ', os', a, b, c⟩ => ⟨ds.length - (i + 1), by omega, rfl, hlt, F', ρ', os', a, b, c⟩, fun x H' y => ?_⟩
    obtain ⟨F2, le2, st2, rx⟩ := it.yld i ds[i] H1 F1 Gx _ ρ1 _ x H' (by simp [hlt]) c1 st1 y
    have e : ds.drop i = ds[i] :: ds.drop (i + 1) := List.drop_eq_getElem_cons hlt
    rw [e] at r1
    have r2 := r1.le le2
    rw [lc2L] at r2
    obtain ⟨Gx1, st3, back⟩ := st2.asideS
    refine ⟨F2, Gx1, ρ1, .val ds[i], st3.ofVal rx, ?_⟩
    refine (Okk.rs r2.bind).mono fun _ H3 F3 σ3 ρ3 le3 p3 r5 st4 => ?_
    have p3' : Pin (others (L2.wipe σ vs).length vs) (L2.wipe σ vs) σ3 := by rw [wl]; exact p3
    have w3 : L2.wipe σ3 vs = L2.wipe σ vs := (wipe_pin p3').trans (wipe_id2 σ vs)
    have l3 : σ.length = σ3.length := by rw [p3.1, wl]
    refine ⟨w3, F3, Gx1, ρ3, st4, Okk.rn (Okk.mono r5.bind fun b H4 F4 ρ4 le4 r6 st5 => ?_)⟩
    cases b with
    | true =>
      simp only [if_true] at r6
      refine ⟨F4, Gx1, ρ4, st5, Okk.rn (Okk.mono r6.bind fun ds1 H5 F5 ρ5 le5 r7 J1 F6 le6 st6 it1 => ?_)⟩
      have st7 := back H5 F6 _ ρ5 _ (((le3.trans le4).trans le5).trans le6) st6
      rw [List.append_nil] at st7
      split at r7
      · rename_i hz
        have r8 := (r7.le le6).bind.ok (a := ()) (ρ' := wipeR ρ5 vs1) rfl H5 F6 (Le.refl _)
        refine lc_step l3 it1 (fun H' F' σ' ρ' L' l s => ⟨l, s.le⟩) (st7.wipe vs1) hz (Okk.mono r8.bind fun os1 H7 F7 ρ7 le7 r9 st8 => ?_)
        have st9 := st8.unwipe.wipe vs
        rw [w3] at st9
        have r10 := r9.bind.ok (a := ()) (ρ' := wipeR ρ7 vs) rfl H7 F7 (Le.refl _)
        refine ⟨F7, wipeR ρ7 vs, os ++ os1, (((le1.trans le2).trans (le3.trans le4)).trans (le5.trans le6)).trans le7, st9, ?_⟩
        rw [List.length_append]
        refine Okk.mono r10.bind fun rest H' F' ρ' _ q => ?_
        have q2 := q.pure H' F' (Le.refl _)
        rw [List.append_assoc]
        exact q2
      · obtain ⟨_, _, e⟩ := r7.run; cases e
    | false =>
      simp only [Bool.false_eq_true, if_false] at r6
      have st7 := back H4 F4 _ ρ4 _ (le3.trans le4) st5
      have st9 := st7.wipe vs
      rw [w3] at st9
      have r8 := r6.bind.ok (a := ()) (ρ' := wipeR ρ4 vs) rfl H4 F4 (Le.refl _)
      exact ⟨F4, wipeR ρ4 vs, os, (le1.trans le2).trans (le3.trans le4), st9, r8⟩
  · have e : i = ds.length := by omega
    subst e
    rw [List.drop_length, lc2L] at r1
    refine .inl ⟨it.stop H1 F1 c1, ?_⟩
    have q := r1.pure H1 F1 (Le.refl _)
    rw [List.append_nil] at q
    exact q st1
section
variable {W : WX} {X : Cx} {ca : Ca} {pn : List Nat} {elt tg iter tg1 iter1 : Expr} {ifs ifs1 : List Expr} {scope : Scope} {own : List (Str × Nat)} {vs1 : List Nat} {pos : Pos} {h h1 : O → M Unit} {ft ft1 : M Bool} {fe : M O} {fi fi1 : M (List D)}
theorem e_lc2 (hc : X.calm = true) (hN : X.N.Nodup) (hi : PI X tg iter (Ti (gv X ca) W fi)) (ok : BlkOk X.N X.env.scope scope own) (hv : ∀ i ∈ vs1, i ∈ own.map (·.2))
    (hg : ∀ (s : Shared) (H : Hp) (C : Addr) (cl : List (Str × Addr)) (fp : List Addr), PG (X.blk s H scope (compEnvC scope cl C X.env) fp) tg (Tg (gv X ca) W0 (others X.N.length (own.map (·.2))) h))
    (ht : ∀ (s : Shared) (H : Hp) (C : Addr) (cl : List (Str × Addr)) (fp : List Addr), PTs (X.blk s H scope (compEnvC scope cl C X.env) fp) ifs (Tt (gv X ca) W0 ft))
    (hi1 : ∀ (s : Shared) (H : Hp) (C : Addr) (cl : List (Str × Addr)) (fp : List Addr), PI (X.blk s H scope (compEnvC scope cl C X.env) fp) tg1 iter1 (Ti (gv X ca) W0 fi1))
    (hg1 : ∀ (s : Shared) (H : Hp) (C : Addr) (cl : List (Str × Addr)) (fp : List Addr), PG (X.blk s H scope (compEnvC scope cl C X.env) fp) tg1 (Tg (gv X ca) W0 (others X.N.length vs1) h1))
    (ht1 : ∀ (s : Shared) (H : Hp) (C : Addr) (cl : List (Str × Addr)) (fp : List Addr), PTs (X.blk s H scope (compEnvC scope cl C X.env) fp) ifs1 (Tt (gv X ca) W0 ft1))
    (he : ∀ (s : Shared) (H : Hp) (C : Addr) (cl : List (Str × Addr)) (fp : List Addr), PE (X.blk s H scope (compEnvC scope cl C X.env) fp) elt (T (gv X ca) W0 fe))
    (hs : ∀ x, foldedSetIterable iter X.env x = pure x := by intro _; rfl) (hs1 : ∀ env x, foldedSetIterable iter1 env x = pure x := by intro _ _; rfl) :
    PE X (.ListComp elt [⟨tg, iter, ifs, 0⟩, ⟨tg1, iter1, ifs1, 0⟩] scope pos) (T (gv X ca) W (lc2F (own.map (·.2)) vs1 fi h ft fi1 h1 ft1 fe)) :=
  ⟨fun pins s σ H Q I q => (pe_lc2 hc hN hi ok hv hg ht hi1 hg1 ht1 he hs hs1).run pins s σ H Q I (lc2_ask I.len.symm hv q)⟩
end
end PF

set_option Elab.async false
set_option linter.all false
set_option maxRecDepth 100000
set_option maxHeartbeats 2000000
namespace PF
open PySem PySem.Spec PyProof.Rows L2

/-! ### {k: v for .. in .. if ..}, the keys tuples -/
section
variable {X : Cx} {ca : Ca}
theorem dN_store {pins : List (Addr × Obj)} {σ : L2.St} {H : Hp} {s : Shared} {E : Value → Shared → Prop} {D : Addr} {y z : V} {u r : Value} {N : Hp → Prop} (hu : X.A.units + 65 < cLine) (I : Inv X pins σ H s) (ry : RelV y u) (rz : RelV z r) (q : rSetN (gv X ca) (.ref D) y z H N)
    {Q : Unit → Shared → Prop} (h : ∀ s' H', Inv X pins σ H' s' → N H' → Q () s') : wpAny (model X.prog X.w) X.A (dictSet D u r) Q E s := by
  obtain ⟨F, a, xs, ks, d, k, b, le, e1, e2, hH, hz, nk, rd, hk, dk, q⟩ := q
  cases e1
  subst e2
  cases ry
  obtain ⟨zl, lo, ys, pr, dd⟩ := dN_of I le nk hH
  have hz2 : ys.length ≤ sizeLine := by rw [← Paired.length pr]; exact zl
  have hn : (ys.map (·.1)).Nodup := by obtain ⟨_, _, _, _, _, _, _, _, hn⟩ := dd; exact hn
  refine wpAny_dictSet_heap (knd := nestedKind X.prog X.w) (hsz := hz2) (by show X.A.units + 8 < cLine; omega) ⟨nk_is I le d k _ _ hk rd rfl, dk⟩ dd fun h' dd' hs => ?_
  have he : ∃ q, h'.get? D = some q := by obtain ⟨q1, _, _, hq, _⟩ := dd'; exact ⟨q1, hq⟩
  refine h _ _ (d_write I (by rw [hH]; exact True.intro) hs he (dN_new ?_ lo (putN_rel rz pr hn) ?_)) q
  · have := putN_len k b z xs
    omega
  · obtain ⟨q1, es, ep, hq, h2, h3, h4, h5, h6⟩ := dd'
    exact ⟨q1, es, ep, hq, h2, h3, h4, h5, h6⟩
/-- what such a comprehension asks; D: the new dict -/
def tDn (g : Gv) (wi : L2.TI) (gt : TG) (tt : TT) (tk tv : TE) (vs : List Nat) : TE := fun σ H Q => wi σ H fun J H1 => ∀ D, H1 D = none → ∃ Wv : Nat → Nat → Hp → Prop, (∃ m, Wv 0 m (upd H1 D (dTN g D []))) ∧ ∀ i m H, Wv i m H →
  (J.stop i H ∧ Q (.ref D) H) ∨ (J.go i H ∧ ∃ N : Hp → Prop, (∀ H', N H' → ∃ m', m' < m ∧ Wv (i + 1) m' H') ∧ ∀ x H', J.yld i H x H' → gt x (L2.wipe σ vs) H' fun σ2 H2 => L2.wipe σ2 vs = L2.wipe σ vs ∧
    tt σ2 H2 fun b H3 => if b = true then tk σ2 H3 fun y H4 => tv σ2 H4 fun z H5 => rSetN g (.ref D) y z H5 N else N H3)
set_option maxHeartbeats 8000000 in
theorem pe_dn {kx vx tg iter : Expr} {ifs : List Expr} {scope : Scope} {own : List (Str × Nat)} {pos : Pos} {wi : L2.TI} {gt : TG} {tt : TT} {tk tv : TE} (hu : X.A.units + 65 < cLine) (hc : X.calm = true) (hN : X.N.Nodup) (hi : PI X tg iter wi) (ok : BlkOk X.N X.env.scope scope own)
    (hg : ∀ (s : Shared) (H : Hp) (C : Addr) (cl : List (Str × Addr)) (fp : List Addr), PG (X.blk s H scope (compEnvC scope cl C X.env) fp) tg gt)
    (ht : ∀ (s : Shared) (H : Hp) (C : Addr) (cl : List (Str × Addr)) (fp : List Addr), PTs (X.blk s H scope (compEnvC scope cl C X.env) fp) ifs tt)
    (hk : ∀ (s : Shared) (H : Hp) (C : Addr) (cl : List (Str × Addr)) (fp : List Addr), PE (X.blk s H scope (compEnvC scope cl C X.env) fp) kx tk)
    (he : ∀ (s : Shared) (H : Hp) (C : Addr) (cl : List (Str × Addr)) (fp : List Addr), PE (X.blk s H scope (compEnvC scope cl C X.env) fp) vx tv)
    (hs : ∀ x, foldedSetIterable iter X.env x = pure x := by intro _; rfl) :
    PE X (.DictComp kx vx [⟨tg, iter, ifs, 0⟩] scope pos) (tDn (gv X ca) wi gt tt tk tv (own.map (·.2))) := by
  refine ⟨fun pins s σ H Q I h => ?_⟩
  rw [arm_eval_DictComp]
  have hfree : ∀ y ∈ scope.names, y.2 = .free → ∃ c, X.env.cells.lookup y.1 = some c := fun y hy e => by
    rcases ok.free y hy e with k | k
    · exact I.ok.has _ (.inl k)
    · exact I.ok.has _ (.inr k)
  refine wpAny_comprehension_free rfl hs (closure_ok hfree) ok.kind (fun y hy e => by rw [ok.uniq y hy, e]) (thn (hi.run pins s σ H _ I h) fun xv sA hx => thn hx fun itv sB hB => ?_)
  obtain ⟨it, fp, tn, J, HB, e, IB, TT', stB, fB, q⟩ := hB
  subst e
  refine wpAny_newObj_type (newEnv_comp ?_)
  generalize hD : sB.heap.objs.size = D
  have hDn : HB D = none := IB.hok.fresh (Nat.le_of_eq hD)
  obtain ⟨Wv, ⟨m0, w0⟩, turn⟩ := q D hDn
  generalize hsC : ({ sB with heap := sB.heap.push { cls := .type "dict", data := .dict #[] } } : Shared) = sC
  have IC : Inv X pins σ (upd HB D (dTN (gv X ca) D [])) sC := by
    rw [← hsC]
    refine IB.laid (t' := sB.toks) (fun b o e => Heap.get?_push_of_some _ e) (Nat.le_of_eq hD) ?_
    rw [← hD]
    exact dN_empty sB.heap IB.big
  have hC : sC.heap = sB.heap.push { cls := .type "dict", data := .dict #[] } := by rw [← hsC]
  have sz : ∀ b ∈ fp, b < sB.heap.objs.size := fun b hb => by
    obtain ⟨o, e, _⟩ := TT'.obj _ _ stB b hb
    exact Heap.lt_size e
  have fC : ∀ b ∈ fp, FpOk X pins (upd HB D (dTN (gv X ca) D [])) b ∧ b < sC.heap.objs.size := fun b hb => by
    have hlt := sz b hb
    refine ⟨⟨?_, (fB b hb).2⟩, by rw [hC, Heap.size_push]; exact Nat.lt_succ_of_lt hlt⟩
    rw [upd_ne (by rw [← hD]; exact Nat.ne_of_lt hlt)]
    exact (fB b hb).1
  have stC : tn 0 sC.heap := TT'.keep _ _ _ stB fun b _ o e => by rw [hC]; exact Heap.get?_push_of_some _ e
  have I4 := block_start IC ok hN fC
  generalize hH3 : upd HB D (dTN (gv X ca) D []) = H3 at IC I4 w0 fC
  generalize hcl : cellsFrom (sC.heap.objs.size + 1) scope.names (cloFrom X.env.cells scope.names []) = cl at I4
  have pg := hg sC H3 sC.heap.objs.size cl fp
  have pt := ht sC H3 sC.heap.objs.size cl fp
  have pk := hk sC H3 sC.heap.objs.size cl fp
  have pe := he sC H3 sC.heap.objs.size cl fp
  have nfp : ∀ b ∈ fp, H3 b = none := fun b hb => (fC b hb).1.1
  show codeAny _ _ (.compStart (.DictComp kx vx [⟨tg, iter, ifs, 0⟩] scope pos) 0 (.ref it) (.ref D) (compEnvC scope cl sC.heap.objs.size X.env)) (compPost (model X.prog X.w) X.A X.xe none _ (.ref D) sC.heap.objs.size) { sC with heap := pushCells (sC.heap.push { cls := .type "dict", data := .dict #[] }) scope.names }
  generalize hce : compEnvC scope cl sC.heap.objs.size X.env = ce at I4 pg pt pk pe ⊢
  have cL : ce.locals = sC.heap.objs.size := by subst hce; rfl
  generalize hs4 : ({ sC with heap := pushCells (sC.heap.push { cls := .type "dict", data := .dict #[] }) scope.names } : Shared) = s4 at I4 ⊢
  have st4 : tn 0 s4.heap := TT'.keep _ _ _ stC fun b _ o e => by rw [← hs4]; exact pushCells_keeps _ _ _ _ (Heap.get?_push_of_some _ e)
  have stat : ∀ {σ' : L2.St} {H' : Hp} {s' : Shared}, Inv (X.blk sC H3 scope ce fp) [] σ' H' s' → (∀ b ∈ fp, H' b = none) → ∀ b ∈ fp, FpOk (X.blk sC H3 scope ce fp) [] H' b := fun {σ' H' s'} I' hn b hb =>
    ⟨hn b hb, (I'.ok.exf b hb).1, I'.ok.exfs b hb, .inl hb, fun x c e => (I'.ok.exf b hb).2 x c e, fun p hp => absurd (show p ∈ ([] : List (Addr × Obj)) ++ [] from hp) (by simp)⟩
  have loop : codeAny (model X.prog X.w) X.A (.compLoop (.DictComp kx vx [⟨tg, iter, ifs, 0⟩] scope pos) 0 (.ref it) (.ref D) ce) (compPost (model X.prog X.w) X.A X.xe none (EP X pins σ Q) (.ref D) sC.heap.objs.size) s4 := by
    refine compLoop_anyD (fun n s' => ∃ i H', Inv (X.blk sC H3 scope ce fp) [] (L2.wipe σ (own.map (·.2))) H' s' ∧ tn i s'.heap ∧ (∀ b ∈ fp, H' b = none) ∧ Wv i n H') ?_ m0 ⟨0, H3, I4, st4, nfp, w0⟩
    rintro n s5 ⟨i, H5, I5, st5, n5, w5⟩
    rcases turn i n H5 w5 with ⟨stop, qq⟩ | ⟨go, N, hNx, step⟩
    · refine thnF (TT'.done (X.blk sC H3 scope ce fp) rfl rfl rfl hc i [] s5 _ H5 (fun _ _ => False) I5 (stat I5 n5) st5 stop) fun r s6 ⟨hr, I6⟩ => ?_
      subst hr
      have I7 : Inv X pins σ H5 s6 := IC.call' (ch := fp) I6.os I6.base I6.hok I6.bare fun b hb => ⟨(fC b hb).1.2.2.2.1, (fC b hb).1.2.1, (fC b hb).1.2.2.2.2.1, (fC b hb).1.2.2.2.2.2⟩
      have nC : H5 sC.heap.objs.size = none := by
        have z : H5 ce.locals = none := I6.free
        rw [cL] at z
        exact z
      obtain ⟨m, hn, _⟩ := I6.loc
      have hn : s6.heap.Ns ce.locals m := hn
      rw [cL] at hn
      obtain ⟨f0, f1, f2, f3, f4, f5⟩ := IC.fpOk (H' := H5) (Nat.le_refl _) nC
      exact ⟨m, hn, fun h'' sb => ⟨.ref D, H5, I7.turned (t' := s6.toks) (fun b o hb e => (sb.2 b hb).trans e) f0 f1 f3 f4 f5, rfl, qq⟩⟩
    · refine thnF (TT'.item (X.blk sC H3 scope ce fp) rfl rfl rfl hc i [] s5 _ H5 (fun _ _ => False) I5 (stat I5 n5) st5 go) fun r s6 ⟨u, hr, h6⟩ => ?_
      subst hr
      refine thnF h6 fun _ s7 ⟨x, H7, I7, r7, y7, st7, n7⟩ => ?_
      have I7' := I7.pinned (stat I7 n7) (TT'.obj _ _ st7)
      refine thnF (pg.run _ s7 _ H7 x u _ I7' r7 (step x H7 y7)) fun _ s8 ⟨σ8, H8, I8, hw8, q8⟩ => ?_
      refine thnF (pt.run _ s8 σ8 H8 _ I8 q8) fun b s9 ⟨H9, I9, q9⟩ => ?_
      have fin : ∀ {s' : Shared} {H' : Hp}, Inv (X.blk sC H3 scope ce fp) ([] ++ pinsAt fp s7.heap) σ8 H' s' → N H' → ∃ m, m < n ∧ ∃ i H', Inv (X.blk sC H3 scope ce fp) [] (L2.wipe σ (own.map (·.2))) H' s' ∧ tn i s'.heap ∧ (∀ b ∈ fp, H' b = none) ∧ Wv i m H' := fun {s' H'} I' nx => by
        obtain ⟨m', hm, w'⟩ := hNx H' nx
        have pin' : ∀ b ∈ fp, ∀ o, s7.heap.get? b = some o → s'.heap.get? b = some o ∧ H' b = none := fun b hb o e =>
          let z := I'.pin (b, o) (List.mem_append_right _ (List.mem_append_right _ (mem_pinsAt hb e)))
          ⟨z.1, z.2.1⟩
        have hl : (L2.wipe σ (own.map (·.2))).length = σ8.length := by rw [← hw8, wipe_length]
        refine ⟨m', hm, i + 1, H', (I'.unpinned (pins := [])).weak hl (fun j v e => ?_), TT'.keep _ _ _ st7 fun b hb o e => (pin' b hb o e).1, fun b hb => ?_, w'⟩
        · rw [← hw8] at e
          exact (wipe_some e).1
        · obtain ⟨o, e, _⟩ := TT'.obj _ _ st7 b hb
          exact (pin' b hb o e).2
      cases b with
      | false =>
        simp only [Bool.false_eq_true, if_false] at q9 ⊢
        exact fin I9 q9
      | true =>
        simp only [if_true] at q9 ⊢
        refine thnF (pk.run _ s9 σ8 H9 _ I9 q9) fun z s10 ⟨yk, H10, I10, r10, q10⟩ => ?_
        refine thnF (pe.run _ s10 σ8 H10 _ I10 q10) fun z2 s11 ⟨yv, H11, I11, r11, q11⟩ => ?_
        exact dN_store (X := X.blk sC H3 scope ce fp) (ca := ca) hu I11 r10 r11 q11 fun s12 H12 I12 nx => fin I12 nx
  exact codeAny_compStart_dict loop (TT'.self X.A 0 _ _ _ st4 loop)
end
section
variable {g : Gv} {H F Gx : Hp} {σ : L2.St} {ρ : Sls} {L A : List (V × O)}
theorem Good.wrL {o : O} {a : Addr} (gd : Good g H F Gx ((.ref a, o) :: (A ++ L))) :
    ∃ S1 SA, RepO g H F o (.ref a) S1 ∧ RepL g H F A SA ∧ (∀ b, S1 b → SA b → False) ∧ ∀ (o' : O) (u : HO), S1 a → RepO g (upd H a u) F o' (.ref a) (fun b => S1 b ∨ SA b) → Good g (upd H a u) F Gx ((.ref a, o') :: L) := by
  obtain ⟨S, hT, hF, hG, hFG, hS, S1, S2, sp, r1, r2⟩ := gd.ex
  obtain ⟨SA, SL, sp2, rA, rL⟩ := RepL.split g A _ S2 r2
  refine ⟨S1, SA, r1, rA, fun b h1 h2 => sp.d b h1 (sp2.l b h2), fun o' u ha ro => ?_⟩
  obtain ⟨nF, nG, _⟩ := hS a (sp.l a ha)
  exact ⟨S, hT.wr (sp.l a ha), fun b o e => by
      rw [upd_ne (fun q => by subst q; rw [nF] at e; cases e)]; exact hF b o e, fun b o e => by
      rw [upd_ne (fun q => by subst q; rw [nG] at e; cases e)]; exact hG b o e, hFG, fun b hb => by
      obtain ⟨x, y, z⟩ := hS b hb
      refine ⟨x, y, ?_⟩
      by_cases q : b = a
      · subst q; exact ⟨_, upd_same⟩
      · rw [upd_ne q]; exact z, fun b => S1 b ∨ SA b, SL, ⟨fun b hb => hb.elim (sp.l b) fun hb => sp.r b (sp2.l b hb), fun b hb => sp.r b (sp2.r b hb), fun b h1 h2 => h1.elim (fun h1 => sp.d b h1 (sp2.r b h2)) fun h1 => sp2.d b h1 h2⟩,
      ro, RepL.frame g (Le.refl F) _ SL SL (fun _ h => h) (fun b hb => upd_ne (fun e => sp.d a ha (by rw [← e]; exact sp2.r b hb))) rL⟩
theorem StG.dput {Dd : Addr} {ks : List D} {os : List O} {kd : D} {v : O} {y z : V} {N : Hp → Prop} (st : StG g H F Gx σ ρ ((.ref Dd, .dct true ks os) :: (z, v) :: (y, .val kd) :: L)) (hk : nkOk kd = true) (hz : ks.length ≤ lim) (hl : os.length = ks.length)
    (q : ∀ H', StG g H' F Gx σ ρ ((.ref Dd, .dct true (dputK ks kd) (dputV ks os kd v)) :: L) → N H') : rSetN g (.ref Dd) y z H N := by
  obtain ⟨ds, kk, rfl, h2, h3⟩ := nkOk_is hk
  have rk : RepV g F (.tup ds) y := (st.perm (L' := (y, .val (.tup ds)) :: (.ref Dd, .dct true ks os) :: (z, v) :: L) (by
    refine (List.Perm.cons _ (.swap _ _ _)).trans (.swap _ _ _))).gd.val (B := (.ref Dd, .dct true ks os) :: (z, v) :: L ++ slL σ ρ)
  have st2 : StG g H F Gx σ ρ ((.ref Dd, .dct true ks os) :: ([(z, v)] ++ L)) := by
    have w := st.perm (L' := (y, .val (.tup ds)) :: (.ref Dd, .dct true ks os) :: (z, v) :: L) (by
      refine (List.Perm.cons _ (.swap _ _ _)).trans (.swap _ _ _))
    exact w.drop1
  obtain ⟨S1, SA, r1, rA, d, w⟩ := Good.wrL (A := [(z, v)]) (L := L ++ slL σ ρ) st2.gd
  rw [RepO] at r1
  obtain ⟨a, xs, e, sa, e2, e3, e4, e5, rs⟩ := r1
  cases e
  have rk' := rk
  rw [RepV] at rk'
  obtain ⟨b, _, rfl, _⟩ := rk'
  have hxs : xs.length = ks.length := by have := congrArg List.length e3; simpa using this.symm
  refine ⟨F, Dd, xs, ks, .tup ds, kk, b, st.le, rfl, rfl, e5, by rw [hxs]; exact lim_lt hz, ⟨e2, e3, e4⟩, rk, h2, h3, q _ ⟨st.wf, st.len, w _ _ sa ?_⟩⟩
  rw [RepO]
  have nk' := NKs.put (v := z) h2 h3 rk (ks := ks) (xs := xs) ⟨e2, e3, e4⟩
  refine ⟨Dd, putN xs kk b z, rfl, .inl sa, nk'.rep, nk'.nk, nk'.dep, upd_same, ?_⟩
  rw [putN_vals h2 e3]
  exact RepOs.wrote (RepOs.dput hl rs rA.one fun b h1 h2 => d b h1.1 h2) sa d
end
def dcL (own : List Nat) (h : O → M Unit) (ft : M Bool) (fk fv : M O) : List D → List O → List D → M O
  | ks, os, [] => M.pure (.dct true ks os)
  | ks, os, d :: ds => (h (.val d)).bind fun _ => ft.bind fun b => if b = true then fk.bind fun k => fv.bind fun v => match k with
      | .val kd => if nkOk kd = true ∧ ks.length ≤ lim ∧ os.length = ks.length then (wpM own).bind fun _ => dcL own h ft fk fv (dputK ks kd) (dputV ks os kd v) ds else M.stuck
      | _ => M.stuck
    else (wpM own).bind fun _ => dcL own h ft fk fv ks os ds
def dcF (own : List Nat) (fi : M (List D)) (h : O → M Unit) (ft : M Bool) (fk fv : M O) : M O := fi.bind fun ds => noX ((wpM own).bind fun _ => dcL own h ft fk fv [] [] ds)
theorem dc_ask {g : Gv} {W : WX} {vs : List Nat} {fi : M (List D)} {h : O → M Unit} {ft : M Bool} {fk fv : M O} {n : Nat} {σ : L2.St} {H : Hp} {Q : VK} (hn : n = σ.length) (r : T g W (dcF vs fi h ft fk fv) σ H Q) :
    tDn g (Ti g W fi) (Tg g W0 (others n vs) h) (Tt g W0 ft) (T g W0 fk) (T g W0 fv) vs σ H Q := by
  subst hn
  obtain ⟨F0, Gx, ρ0, st0, r⟩ := r
  refine ⟨F0, Gx, ρ0, st0, r.bind.mono fun ds H1 F1 ρ1 le r1 J F le2 st it Dd hD => ?_⟩
  have r2 : Okk _ F ρ1 _ := (Okk.mono r1.okk fun o H' F' ρ' le q => q).le le2
  have r := r2.bind.ok (a := ()) (ρ' := wipeR ρ1 vs) rfl H1 F (Le.refl _)
  have wl : (L2.wipe σ vs).length = σ.length := wipe_length σ vs
  have st0 : StG g (upd H1 Dd (dTN g Dd [])) F Gx (L2.wipe σ vs) (wipeR ρ1 vs) [(.ref Dd, .dct true [] [])] := ⟨(st.wipe vs).wf, (st.wipe vs).len, Good.newO (L := slL (L2.wipe σ vs) (wipeR ρ1 vs)) (st.wipe vs).gd hD fun S hS => by
    rw [RepO]; exact ⟨Dd, [], rfl, hS, by rw [List.map_nil, RepVs], rfl, fun _ h => (nomatch h), upd_same, by rw [List.map_nil, RepOs]⟩⟩
  refine ⟨fun i m H1 => m = ds.length - i ∧ i ≤ ds.length ∧ ∃ F1 ρ1 ks os, Le F F1 ∧ StG g H1 F1 Gx (L2.wipe σ vs) ρ1 [(.ref Dd, .dct true ks os)] ∧
    Okk (dcL vs h ft fk fv ks os (ds.drop i)) F1 ρ1 fun o H' F' ρ' => StG g H' F' Gx (L2.wipe σ vs) ρ' [(.ref Dd, o)] → Q (.ref Dd) H',
    ⟨ds.length, by simp, Nat.zero_le _, F, _, [], [], Le.refl F, st0, Okk.mono r fun o H' F' ρ' le q st' => q _ st'.unwipe⟩, ?_⟩
  rintro i m H1 ⟨rfl, hi, F1, ρ1, ks, os, le1, st1, r1⟩
  have c1 : Fz F H1 F1 := ⟨le1, st1.le⟩
  by_cases hlt : i < ds.length
  · refine .inr ⟨it.go i H1 F1 hlt c1, fun H' => ∃ F' ρ' ks' os', Le F F' ∧ StG g H' F' Gx (L2.wipe σ vs) ρ' [(.ref Dd, .dct true ks' os')] ∧
      Okk (dcL vs h ft fk fv ks' os' (ds.drop (i + 1))) F' ρ' (fun o H' F' ρ' => StG g H' F' Gx (L2.wipe σ vs) ρ' [(.ref Dd, o)] → Q (.ref Dd) H'),
      fun H' ⟨F', ρ', ks', os', a, b, c⟩ => ⟨ds.length - (i + 1), by omega, rfl, hlt, F', ρ', ks', os', a, b, c⟩, fun x H' y => ?_⟩
    obtain ⟨F2, le2, st2, rx⟩ := it.yld i ds[i] H1 F1 Gx _ ρ1 _ x H' (by simp [hlt]) c1 st1 y
    have e : ds.drop i = ds[i] :: ds.drop (i + 1) := List.drop_eq_getElem_cons hlt
    rw [e] at r1
    have r2 := r1.le le2
    rw [dcL] at r2
    obtain ⟨Gx1, st3, back⟩ := st2.asideS
    refine ⟨F2, Gx1, ρ1, .val ds[i], st3.ofVal rx, ?_⟩
    refine (Okk.rs r2.bind).mono fun _ H3 F3 σ3 ρ3 le3 p3 r5 st4 => ?_
    have p3' : Pin (others (L2.wipe σ vs).length vs) (L2.wipe σ vs) σ3 := by rw [wl]; exact p3
    have w3 : L2.wipe σ3 vs = L2.wipe σ vs := (wipe_pin p3').trans (wipe_id2 σ vs)
    refine ⟨w3, F3, Gx1, ρ3, st4, Okk.rn (Okk.mono r5.bind fun b H4 F4 ρ4 le4 r6 st5 => ?_)⟩
    cases b with
    | true =>
      simp only [if_true] at r6
      refine ⟨F4, Gx1, ρ4, st5, Okk.rn (Okk.mono r6.bind fun k H5 F5 ρ5 le5 r7 y st6 => ?_)⟩
      obtain ⟨Gx2, st6', back2⟩ := st6.asideS
      refine ⟨F5, Gx2, ρ5, st6', Okk.rn (Okk.mono r7.bind fun v H6 F6 ρ6 le6 r8 z st7 => ?_)⟩
      have st8 := back2 H6 F6 _ ρ6 _ le6 st7
      have st9 := back H6 F6 _ ρ6 _ (((le3.trans le4).trans le5).trans le6) st8
      split at r8
      · rename_i kd
        split at r8
        · rename_i hk
          have st10 : StG g H6 F6 Gx σ3 ρ6 [(.ref Dd, .dct true ks os), (z, v), (y, .val kd)] := st9.perm (List.Perm.cons _ (.swap _ _ _))
          refine StG.dput st10 hk.1 hk.2.1 hk.2.2 fun H7 st11 => ?_
          have st12 := st11.wipe vs
          rw [w3] at st12
          exact ⟨F6, wipeR ρ6 vs, _, _, (((le1.trans le2).trans (le3.trans le4)).trans le5).trans le6, st12, r8.bind.ok (a := ()) (ρ' := wipeR ρ6 vs) rfl H7 F6 (Le.refl _)⟩
        · obtain ⟨_, _, e⟩ := r8.run; cases e
      · obtain ⟨_, _, e⟩ := r8.run; cases e
    | false =>
      simp only [Bool.false_eq_true, if_false] at r6
      have st7 := back H4 F4 _ ρ4 _ (le3.trans le4) st5
      have st9 := st7.wipe vs
      rw [w3] at st9
      have r8 := r6.bind.ok (a := ()) (ρ' := wipeR ρ4 vs) rfl H4 F4 (Le.refl _)
      exact ⟨F4, wipeR ρ4 vs, ks, os, (le1.trans le2).trans (le3.trans le4), st9, r8⟩
  · have e : i = ds.length := by omega
    subst e
    rw [List.drop_length, dcL] at r1
    refine .inl ⟨it.stop H1 F1 c1, ?_⟩
    exact r1.pure H1 F1 (Le.refl _) st1
section
variable {W : WX} {X : Cx} {ca : Ca} {kx vx tg iter : Expr} {ifs : List Expr} {scope : Scope} {own : List (Str × Nat)} {pos : Pos} {h : O → M Unit} {ft : M Bool} {fk fv : M O} {fi : M (List D)}
theorem e_dc (hu : X.A.units + 65 < cLine) (hc : X.calm = true) (hN : X.N.Nodup) (hi : PI X tg iter (Ti (gv X ca) W fi)) (ok : BlkOk X.N X.env.scope scope own)
    (hg : ∀ (s : Shared) (H : Hp) (C : Addr) (cl : List (Str × Addr)) (fp : List Addr), PG (X.blk s H scope (compEnvC scope cl C X.env) fp) tg (Tg (gv X ca) W0 (others X.N.length (own.map (·.2))) h))
    (ht : ∀ (s : Shared) (H : Hp) (C : Addr) (cl : List (Str × Addr)) (fp : List Addr), PTs (X.blk s H scope (compEnvC scope cl C X.env) fp) ifs (Tt (gv X ca) W0 ft))
    (hk : ∀ (s : Shared) (H : Hp) (C : Addr) (cl : List (Str × Addr)) (fp : List Addr), PE (X.blk s H scope (compEnvC scope cl C X.env) fp) kx (T (gv X ca) W0 fk))
    (he : ∀ (s : Shared) (H : Hp) (C : Addr) (cl : List (Str × Addr)) (fp : List Addr), PE (X.blk s H scope (compEnvC scope cl C X.env) fp) vx (T (gv X ca) W0 fv)) (hs : ∀ x, foldedSetIterable iter X.env x = pure x := by intro _; rfl) :
    PE X (.DictComp kx vx [⟨tg, iter, ifs, 0⟩] scope pos) (T (gv X ca) W (dcF (own.map (·.2)) fi h ft fk fv)) :=
  ⟨fun pins s σ H Q I q => (pe_dn (ca := ca) hu hc hN hi ok hg ht hk he hs).run pins s σ H Q I (dc_ask I.len.symm q)⟩
end
end PF

set_option Elab.async false
set_option linter.all false
set_option maxRecDepth 100000
set_option maxHeartbeats 2000000
namespace PF
open PySem PySem.Spec PyProof.Rows L2

/-! ### names of the text's top -/
section
variable {W : WX} {X : Cx} {ca : Ca} {x : Str} {pos : Pos} {i : Int} {z : Str} {d : D} {T' : String}
theorem e_gI (h : ∃ t, X.mg x = some (.int i t)) (hg : Gl X x := by rfl) (hd : (x == ("__debug__" : Str)) = false := by decide) : PE X (.Name x pos) (T (gv X ca) W (M.pure (.val (.int i)))) := by
  obtain ⟨t, h⟩ := h
  exact e_c (pe_glob (v := .int i) hg h ⟨t, rfl⟩ hd) fun _ => repI
theorem e_gS (h : ∃ t, X.mg x = some (.str z t)) (hg : Gl X x := by rfl) (hd : (x == ("__debug__" : Str)) = false := by decide) : PE X (.Name x pos) (T (gv X ca) W (M.pure (.val (.str z)))) := by
  obtain ⟨t, h⟩ := h
  exact e_c (pe_glob (v := .str z) hg h ⟨t, rfl⟩ hd) fun _ => repS
theorem e_gD (h : ∃ u v, X.mg x = some u ∧ RelV v u ∧ ∀ F, RepV (gv X ca) F d v) (hg : Gl X x := by rfl) (hd : (x == ("__debug__" : Str)) = false := by decide) : PE X (.Name x pos) (T (gv X ca) W (M.pure (.val d))) := by
  obtain ⟨u, v, h, r, q⟩ := h
  exact e_c (pe_glob hg h r hd) q
theorem e_gT (hm : X.mg x = none) (hv : bootBuiltins x = some (.type T')) (hg : Gl X x := by rfl) (hn : x ≠ "__name__" := by decide) (hd : (x == ("__debug__" : Str)) = false := by decide) : PE X (.Name x pos) (T (gv X ca) W (M.pure (.val (.ty T')))) :=
  e_c (pe_bltn (v := .ty T') hg hm hv rfl hn hd) fun _ => by rw [RepV]
end

/-! ### defs of the text -/
section
variable {P : Program} {w : World} {K : PySem.W.Frag} {mg : Str → Option Value} {base : Heap}
/-- a def that may be called: where it stands, what it promises -/
structure Own (P : Program) (w : World) (K : PySem.W.Frag) (mg : Str → Option Value) (base : Heap) (ca : Ca) (k : Nat) (x : Str) (ps : List Str) (ms : List Bool) (sem : M O) : Prop where
  ex : ∃ f fd, mg x = some (.ref f) ∧ PySem.W.keepIn K (.ref f) = true ∧ Binds K fd ps [] ∧ FnOk P w K mg base (L2.CX P w) k f fd ps (spOf ⟨P, w, K, ca⟩ ms sem)
theorem d_end {N : List Str} {ca : Ca} {ms : List Bool} {b : M Out} {vs : List V} {H : Hp} {Q : VK} {E : XK} (hN : ms.length ≤ N.length) (h : spOf ⟨P, w, K, ca⟩ ms (defM N.length b) vs H Q E) :
    Ts ⟨P, w, K, ca⟩ (fun c d _ H => E c d H) (pinOf 0 ms) b { nx := fun _ H' => Q .non H', rt := Q } (L2.start N vs) H := by
  obtain ⟨hv, F, Gx, ρ, st, q⟩ := h
  have hlen : vs.length = ρ.length := by simpa using st.len
  have st' : StG ⟨P, w, K, ca⟩ H F Gx (L2.start N vs) (ρ ++ List.replicate (N.length - ρ.length) none) [] := by
    unfold L2.start
    rw [hlen]
    refine ⟨fun i o e => ?_, by simp [hlen], ?_⟩
    · by_cases hi : i < ρ.length
      · rw [List.getElem?_append_left hi] at e
        obtain ⟨v, hv⟩ := st.wf i o e
        exact ⟨v, by rw [List.getElem?_append_left (by simpa [hlen] using hi)]; exact hv⟩
      · rw [List.getElem?_append_right (by omega), List.getElem?_replicate] at e
        split at e <;> cases e
    · rw [slL_more _ _ _ (by simpa using hlen)]
      exact st.gd
  have pn : ∀ (σ' : L2.St), Pin (pinOf 0 ms) (L2.start N vs) σ' → ∀ (j : Nat), ms[j]? = some true → σ'[j]? = (vs.map some)[j]? := fun σ' hp j hj => by
    have hj2 : j < ms.length := (List.getElem?_eq_some_iff.mp hj).1
    have m := pinOf_mem ms 0 j hj
    rw [Nat.zero_add] at m
    rw [hp.2 j m]
    unfold L2.start
    rw [List.getElem?_append_left (by simp; omega)]
  refine ⟨F, Gx, _, st', ?_⟩
  unfold defM at q
  unfold Rs
  cases e : b (ρ ++ List.replicate (N.length - ρ.length) none) with
  | none => rw [e] at q; exact q
  | some p =>
    obtain ⟨r, ρ'⟩ := p
    rw [e] at q
    have wide : ∀ {H' F' : Hp} {σ' : L2.St} {L : List (V × O)}, StG ⟨P, w, K, ca⟩ H' F' Gx σ' ρ' L → Pin (pinOf 0 ms) (L2.start N vs) σ' → StG ⟨P, w, K, ca⟩ H' F' Gx (vs.map some) (mask ms ρ') L := fun st2 hp => by
      have hl2 : ms.length ≤ ρ'.length := by
        rw [← st2.len, hp.1]
        unfold L2.start
        simp
        omega
      exact st2.masked hv hl2 (pn _ hp)
    cases r with
    | ex x => exact fun H' F' σ' d le hp st2 hx => q d H' F' le (wide st2 hp) hx
    | ok out =>
      intro H' F' σ' le hp
      cases out with
      | nx => exact fun st2 => q .non H' F' le ((wide st2 hp).ofVal repN)
      | rt o => exact fun v st2 => q v H' F' le (wide st2 hp)
      | bk => exact q.elim
      | ct => exact q.elim
theorem d_okD {x qual : Str} {params : Arguments} {body : List Stmt} {scope : Scope} {f : Addr} {fd : FuncData} {N ps : List Str} {k : Nat} {ca : Ca} {ms : List Bool} {b : M Out} (Fu : FunD K x qual params body scope [] [] f fd) (S : FnScope N ps scope) (hl : ms.length = ps.length) (hN : ms.length ≤ N.length)
    (hbody : ∀ (cdv : Value) (A : Around) (outer : List Env) (s : Shared) (H : Hp) (E : XK), Room k (A.deeper (envOfC qual scope s.heap.objs.size f cdv)) →
      PSs (cxOf (L2.CX P w) P w K mg base N qual scope f cdv A outer s H E) body (Ts ⟨P, w, K, ca⟩ (fun c d _ H => E c d H) (pinOf 0 ms) b)) :
    FnOk P w K mg base (L2.CX P w) (k + 1) f fd ps (spOf ⟨P, w, K, ca⟩ ms (defM N.length b)) := by
  refine Fu.ok S (fun vs H Q E h => h.1.trans hl) (fun cdv A outer s H vs Q E hr h => ⟨_, hbody cdv A outer s H E hr, ?_⟩)
  exact d_end hN h
end
section
variable {W : WX} {X : Cx} {ca : Ca} {k j : Nat} {x : Str} {ps : List Str} {ms : List Bool} {sem : M O} {p pos : Pos} {e : Expr} {es : List Expr} {ks : List (Option Nat)} {fs : M (List O)}
theorem e_own (Ow : Own X.prog X.w X.K X.mg X.base ca k x ps ms sem) (hr : Room j X.A) (hj : k ≤ j) (tk : Takes X W) (hms : ms.length = ks.length) (ha : PA X (e :: es) (TLm (gv X ca) W ks fs)) (hg : Gl X x := by rfl) (hdb : (x == ("__debug__" : Str)) = false := by decide)
    (he : starEach (e :: es) X.env = (false, eval e X.env) :: starEach es X.env := by rfl) (hpl : (backTo pos (starEach es X.env)).any (·.1) = false := by rfl) : PE X (.Call (.Name x p) (e :: es) [] pos) (T (gv X ca) W (callF ks fs ms sem)) := by
  obtain ⟨f, fd, hm, hk, hb, Fo⟩ := Ow.ex
  exact e_call Fo (hr.mono hj) hg hm hk hb tk hms ha hdb he hpl
end
end PF

set_option Elab.async false
set_option linter.all false
set_option maxRecDepth 100000
set_option maxHeartbeats 2000000
namespace PF
open PySem PySem.Spec PyProof.Rows L2

/-! ### {"a": .., "b": ..} -/
def zipk (ks : List Str) (vs : List V) : List (V × V) := (ks.zip vs).map fun p => (V.str p.1, p.2)
def DS (g : Gv) (W : WX) (X : Cx) (pos : Pos) (keys : List (Option Expr)) (values : List Expr) (ks : List Str) (fs : M (List O)) : Prop :=
  ∃ trs, PPs X pos keys values trs ∧ keys.length = ks.length ∧ values.length = ks.length ∧ keys.all (·.isSome) = true ∧ ∀ σ H Q, TL g W fs σ H (fun vs H' => Q (zipk ks vs) H') → tPairs trs σ H Q
section
variable {g : Gv} {W : WX} {X : Cx} {pos : Pos} {e : Expr} {keys : List (Option Expr)} {values : List Expr} {ks : List Str} {f : M O} {fs : M (List O)} {k : Str} {j : Nat} {kp : Pos}
theorem ds_nil : DS g W X pos [] [] [] nilA := ⟨[], pps_nil, rfl, rfl, rfl, fun σ H Q ⟨F, Gx, ρ, st, r⟩ => r.pure H F (Le.refl F) [] rfl st⟩
theorem ds_cons (h : PE X e (T g W f)) (r : DS g W X pos keys values ks fs) : DS g W X pos (some (.Constant (.str k) j kp) :: keys) (e :: values) (k :: ks) (consA f fs) := by
  obtain ⟨trs, h1, h2, h3, h4, h5⟩ := r
  refine ⟨(tC (.str k), T g W f) :: trs, pps_cons pe_str h h1, by simp [h2], by simp [h3], by simp [h4], fun σ H Q ⟨F, Gx, ρ, st, r⟩ => ?_⟩
  refine ⟨F, Gx, ρ, st, r.bind.mono fun o H1 F1 ρ1 le r1 v st1 => ?_⟩
  obtain ⟨Gx', st1', back⟩ := st1.aside
  refine h5 σ H1 _ ⟨F1, Gx', ρ1, st1', (r1.aside fun H' F' ρ' le q => (back H' F' ρ' [] le q).drop1).bind.mono fun os H2 F2 ρ2 le2 r2 vs hl st2 => ?_⟩
  exact r2.pure H2 F2 (Le.refl _) (v :: vs) (by simp [hl]) (back H2 F2 ρ2 _ le2 st2)
end
theorem merge_all : ∀ (more acc : List (Key × V)), (∀ p ∈ more, valV acc p.1 = none) → (more.map (·.1)).Nodup → mergeK acc more = acc ++ more
  | [], acc, _, _ => by simp [mergeK]
  | p :: more, acc, h, n => by
    have hp := h p (by simp)
    rw [List.map_cons, List.nodup_cons] at n
    show mergeK (putK acc p.1 p.2) more = _
    rw [putK_new p.2 hp, merge_all more _ (fun q hq => ?_) n.2, List.append_assoc]
    · rfl
    · have ne : ¬ q.1 = p.1 := fun e => n.1 (by rw [← e]; exact List.mem_map_of_mem hq)
      rw [valV_snoc p.1 q.1 p.2 acc hp, if_neg ne]
      exact h q (by simp [hq])
def dispF (ks : List Str) (fs : M (List O)) : M O := fs.bind fun os => if ks.Nodup ∧ os.length = ks.length ∧ ks.length ≤ 15 ∧ 0 < ks.length then M.pure (.dct false (ks.map .str) os) else M.stuck
section
variable {W : WX} {X : Cx} {ca : Ca} {pos : Pos} {keys : List (Option Expr)} {values : List Expr} {ks : List Str} {fs : M (List O)}
theorem e_disp (h : DS (gv X ca) W X pos keys values ks fs) (h15 : keys.length ≤ 15 := by decide) (h0 : keys ≠ [] := by exact fun h => nomatch h) : PE X (.Dict keys values pos) (T (gv X ca) W (dispF ks fs)) := by
  obtain ⟨trs, h1, h2, h3, h4, h5⟩ := h
  refine PE.imp (pe_disp h1 h4 (h2.trans h3.symm) h0 h15) fun σ H Q ⟨F, Gx, ρ, st, r⟩ p hp => ?_
  have st0 : StG (gv X ca) (upd H p (.dK [])) F Gx σ ρ [(.ref p, .dct false [] [])] := ⟨st.wf, st.len, Good.newO (L := slL σ ρ) st.gd hp fun S hS => by
    rw [RepO]; exact ⟨p, [], rfl, hS, ⟨[], rfl, List.nodup_nil, rfl, upd_same⟩, by rw [RepOs]⟩⟩
  obtain ⟨Gx', st1, back⟩ := st0.aside
  refine h5 σ _ _ ⟨F, Gx', ρ, st1, (r.aside fun H' F' ρ' le q => (back H' F' ρ' [] le q).drop1).bind.mono fun os H2 F2 ρ2 le2 r2 vs hl st2 => ?_⟩
  have st3 := back H2 F2 ρ2 _ le2 st2
  split at r2
  · rename_i hk
    obtain ⟨nd, ho, hz, hpos⟩ := hk
    have st3' : StG (gv X ca) H2 F2 Gx σ ρ2 ((.ref p, .dct false [] []) :: (vs.zip os ++ [])) := by rw [List.append_nil]; exact st3
    obtain ⟨S1, SA, r1, rA, d, w⟩ := Good.wrL (A := vs.zip os) (L := [] ++ slL σ ρ2) (by simpa using st3'.gd)
    rw [RepO] at r1
    obtain ⟨a, us, e, sa, ⟨kk, e1, e2, e3, e4⟩, rs⟩ := r1
    cases e
    have ek : kk = [] := by cases kk with
      | nil => rfl
      | cons _ _ => cases e1
    subst ek
    have hH : H2 p = some (.dK []) := by simpa using e4
    have kvk : ((ks.map Sum.inr : List Key).zip vs).map (·.1) = ks.map Sum.inr := by rw [List.map_fst_zip]; simp; omega
    have mk : mergeK [] ((ks.map Sum.inr : List Key).zip vs) = (ks.map Sum.inr : List Key).zip vs := by
      rw [merge_all _ [] (fun q _ => rfl) (by rw [kvk]; exact List.pairwise_map.mpr (List.Pairwise.imp (fun {a b} h e => h (by injection e)) nd))]
      rfl
    refine ⟨hH, (ks.map Sum.inr : List Key).zip vs, ?_, ?_, ?_⟩
    · unfold zipk
      rw [List.zip_map_left, List.map_map]
      rfl
    · rw [List.length_zip, List.length_map]; omega
    · rw [mk]
      refine r2.pure _ F2 (Le.refl _) (.ref p) ⟨st3.wf, st3.len, ?_⟩
      refine (w _ _ sa ?_ : _)
      rw [RepO]
      refine ⟨p, vs, rfl, .inl sa, ⟨ks.map Sum.inr, by rw [List.map_map]; rfl, List.pairwise_map.mpr (List.Pairwise.imp (fun {a b} h e => h (by injection e)) nd), by rw [List.length_map, hl, ho], upd_same⟩, ?_⟩
      refine RepOs.wrote ?_ sa d
      refine RepOs.sup _ (fun b hb => .inr hb) (RepL.toOs hl rA)
  · obtain ⟨_, _, e⟩ := r2.run; cases e
end
section
variable {P : Program} {w : World} {K : PySem.W.Frag} {mg : Str → Option Value} {base : Heap}
/-- nothing is promised -/
theorem d_stuck {x qual : Str} {params : Arguments} {body : List Stmt} {scope : Scope} {f : Addr} {fd : FuncData} {N ps : List Str} {k : Nat} {ca : Ca} {ms : List Bool} (Fu : FunD K x qual params body scope [] [] f fd) (S : FnScope N ps scope) (hl : ms.length = ps.length) :
    FnOk P w K mg base (L2.CX P w) (k + 1) f fd ps (spOf ⟨P, w, K, ca⟩ ms M.stuck) := by
  refine Fu.ok S (fun vs H Q E h => h.1.trans hl) (fun cdv A outer s H vs Q E hr h => ?_)
  obtain ⟨_, F, Gx, ρ, st, q⟩ := h
  exact q.elim
end
/-! ### what the text's top has made -/
mutual
def repK (K : PySem.W.Frag) : D → Value → Bool
  | .int i, .int j _ => decide (i = j)
  | .str x, .str y _ => decide (x = y)
  | .tup ds, .ref b => match K.lookup b with
    | some ⟨.type c, _, .seq its _, _⟩ => decide (c = "tuple") && (decide (its.size ≤ sizeLine) && repKs K ds its.toList)
    | _ => false
  | _, _ => false
def repKs (K : PySem.W.Frag) : List D → List Value → Bool
  | [], [] => true
  | d :: ds, u :: us => repK K d u && repKs K ds us
  | _, _ => false
end
section
variable {g : Gv}
mutual
theorem repK_ok : ∀ (d : D) (u : Value), repK g.K d u = true → ∃ v, RelV v u ∧ ∀ F, RepV g F d v
  | .int i, .int j t, h => by
    rw [repK] at h
    have e := of_decide_eq_true h
    subst e
    exact ⟨.int i, ⟨t, rfl⟩, fun _ => repI⟩
  | .str x, .str y t, h => by
    rw [repK] at h
    have e := of_decide_eq_true h
    subst e
    exact ⟨.str x, ⟨t, rfl⟩, fun _ => repS⟩
  | .tup ds, .ref b, h => by
    rw [repK] at h
    split at h
    · rename_i c od its n sl q
      rw [Bool.and_eq_true, Bool.and_eq_true] at h
      obtain ⟨h1, h2, h3⟩ := h
      obtain ⟨vs, r, rv⟩ := repKs_ok ds _ h3
      refine ⟨.ref b, rfl, fun F => ?_⟩
      rw [RepV]
      exact ⟨b, vs, rfl, .inr ⟨_, its, n, q, congrArg Value.type (of_decide_eq_true h1), rfl, of_decide_eq_true h2, r⟩, rv F⟩
    · cases h
  | .non, u, h => by simp [repK] at h
  | .bl _, u, h => by simp [repK] at h
  | .lst _, u, h => by simp [repK] at h
  | .dct _ _ _, u, h => by simp [repK] at h
  | .ins _ _ _, u, h => by simp [repK] at h
  | .scr _, u, h => by simp [repK] at h
  | .ty _, u, h => by simp [repK] at h
  | .exn _ _ _, u, h => by simp [repK] at h
  | .int _, .none, h => by simp [repK] at h
  | .int _, .bool _, h => by simp [repK] at h
  | .int _, .str _ _, h => by simp [repK] at h
  | .int _, .ref _, h => by simp [repK] at h
  | .int _, .type _, h => by simp [repK] at h
  | .int _, .builtin _, h => by simp [repK] at h
  | .int _, .float _ _, h => by simp [repK] at h
  | .int _, .bytes _ _, h => by simp [repK] at h
  | .str _, .none, h => by simp [repK] at h
  | .str _, .bool _, h => by simp [repK] at h
  | .str _, .int _ _, h => by simp [repK] at h
  | .str _, .ref _, h => by simp [repK] at h
  | .str _, .type _, h => by simp [repK] at h
  | .str _, .builtin _, h => by simp [repK] at h
  | .str _, .float _ _, h => by simp [repK] at h
  | .str _, .bytes _ _, h => by simp [repK] at h
  | .tup _, .none, h => by simp [repK] at h
  | .tup _, .bool _, h => by simp [repK] at h
  | .tup _, .int _ _, h => by simp [repK] at h
  | .tup _, .str _ _, h => by simp [repK] at h
  | .tup _, .type _, h => by simp [repK] at h
  | .tup _, .builtin _, h => by simp [repK] at h
  | .tup _, .float _ _, h => by simp [repK] at h
  | .tup _, .bytes _ _, h => by simp [repK] at h
theorem repKs_ok : ∀ (ds : List D) (us : List Value), repKs g.K ds us = true → ∃ vs, Vals vs us ∧ ∀ F, RepVs g F ds vs
  | [], [], _ => ⟨[], .nil, fun F => by rw [RepVs]⟩
  | d :: ds, u :: us, h => by
    rw [repKs, Bool.and_eq_true] at h
    obtain ⟨v, r, q⟩ := repK_ok d u h.1
    obtain ⟨vs, rs, qs⟩ := repKs_ok ds us h.2
    exact ⟨v :: vs, .cons r rs, fun F => by rw [RepVs]; exact ⟨v, vs, rfl, q F, qs F⟩⟩
  | [], _ :: _, h => by simp [repKs] at h
  | _ :: _, [], h => by simp [repKs] at h
end
end
def keyS (e : DictEntry) : Option Str := match e.key with
  | .str z _ => some z
  | _ => none
def tabK (K : PySem.W.Frag) (a : Addr) (ks : List Str) (ds : List D) : Bool := match K.lookup a with
  | some ⟨_, _, .dict es _, _⟩ => !es.toList.any (·.refKey) && (decide (es.toList.map keyS = ks.map some) && repKs K ds (es.toList.map (·.val)))
  | _ => false
theorem key_is {e : DictEntry} {k x : Str} (h : keyS e = some k) : e.key.isStr x = (x == k) := by
  unfold keyS at h
  split at h
  · rename_i z t q
    cases h
    rw [q]
    show (k == x) = (x == k)
    by_cases c : k = x
    · subst c; rfl
    · rw [beq_eq_false_iff_ne.mpr c, beq_eq_false_iff_ne.mpr (Ne.symm c)]
  · cases h
theorem tab_find {x : Str} : ∀ {l : List DictEntry} {ks : List Str} {vs : List V}, l.map keyS = ks.map some → Vals vs (l.map (·.val)) → RelO ((ks.zip vs).lookup x) ((l.find? (·.key.isStr x)).map (·.val))
  | [], [], _, _, r => by cases r; exact trivial
  | [], _ :: _, _, h, _ => by simp at h
  | _ :: _, [], _, h, _ => by simp at h
  | e :: l, k :: ks, vs, h, r => by
    simp only [List.map_cons, List.cons.injEq] at h
    cases r with
    | @cons v u vs' us' r1 r2 =>
      have ih := tab_find (x := x) h.2 r2
      rw [List.zip_cons_cons, List.lookup_cons, List.find?_cons, key_is h.1]
      cases c : (x == k) with
      | true => exact r1
      | false => exact ih
theorem tabK_ok {g : Gv} {a : Addr} {ks : List Str} {ds : List D} {es : Array DictEntry} {n : Nat} (kd : KDict g.K g.w a es n) (h : tabK g.K a ks ds = true) : ∀ F, RepV g F (.dct false (ks.map .str) ds) (.ref a) := by
  unfold tabK at h
  split at h
  · rename_i c od es' n' sl q
    rw [Bool.and_eq_true, Bool.and_eq_true] at h
    obtain ⟨h1, h2, h3⟩ := h
    have h2 := of_decide_eq_true h2
    obtain ⟨vs, r, rv⟩ := repKs_ok (g := g) ds _ h3
    have hl : vs.length = ks.length := by
      rw [r.length, List.length_map]
      have := congrArg List.length h2
      simpa using this
    intro F
    rw [RepV]
    refine ⟨a, vs, rfl, .inr ⟨es, n, ks.zip vs, kd, ?_, ?_, fun x => ?_⟩, rv F⟩
    · have e : (ks.zip vs).map (fun z => D.str z.1) = ((ks.zip vs).map (·.1)).map D.str := by rw [List.map_map]; rfl
      rw [e, List.map_fst_zip (by omega)]
    · rw [List.map_snd_zip (by omega)]
    · refine ⟨(es'.toList.find? (·.key.isStr x)).map (·.val), ?_, tab_find h2 r⟩
      have h1' : es'.toList.any (·.refKey) = false := by simpa using h1
      unfold PySem.W.nsIn
      simp only [q]
      cases c2 : es'.toList.find? (·.key.isStr x) with
      | some e => rfl
      | none => simp only [h1']; rfl
  · cases h
end PF

set_option Elab.async false
set_option linter.all false
set_option maxRecDepth 100000
set_option maxHeartbeats 2000000
namespace PF
open PySem PySem.Spec PyProof.Rows L2

/-! ### what a run comes to, from behind -/
def Ev {α : Type} (f : M α) (ρ : Sls) (R : α → Sls → Prop) : Prop := ∃ a ρ', f ρ = some (.ok a, ρ') ∧ R a ρ'
section
variable {α β : Type} {f : M α} {ρ : Sls} {R R' : α → Sls → Prop}
theorem Ev.mono (h : Ev f ρ R) (i : ∀ a ρ', R a ρ' → R' a ρ') : Ev f ρ R' := let ⟨a, ρ', e, r⟩ := h; ⟨a, ρ', e, i a ρ' r⟩
theorem ev_pure {a : α} : Ev (M.pure a) ρ R ↔ R a ρ := ⟨fun ⟨a', ρ', e, r⟩ => by cases e; exact r, fun r => ⟨a, ρ, rfl, r⟩⟩
theorem ev_bind {k : α → M β} {R : β → Sls → Prop} : Ev (f.bind k) ρ R ↔ Ev f ρ fun a ρ1 => Ev (k a) ρ1 R := by
  constructor
  · rintro ⟨b, ρ', e, r⟩
    unfold M.bind at e
    cases q : f ρ with
    | none => rw [q] at e; cases e
    | some p =>
      obtain ⟨z, ρ1⟩ := p
      rw [q] at e
      cases z with
      | ex x => cases e
      | ok a => exact ⟨a, ρ1, q, b, ρ', e, r⟩
  · rintro ⟨a, ρ1, e, b, ρ', e2, r⟩
    exact ⟨b, ρ', by unfold M.bind; rw [e]; exact e2, r⟩
theorem ev_of {o : Option α} : Ev (M.of o) ρ R ↔ ∃ a, o = some a ∧ R a ρ := by
  constructor
  · rintro ⟨a, ρ', e, r⟩
    unfold M.of at e
    cases o with
    | none => cases e
    | some b => cases e; exact ⟨a, rfl, r⟩
  · rintro ⟨a, rfl, r⟩
    exact ⟨a, ρ, rfl, r⟩
theorem ev_stuck : Ev (M.stuck : M α) ρ R ↔ False := ⟨fun ⟨_, _, e, _⟩ => (by cases e), fun h => h.elim⟩
end
section
variable {ρ : Sls} {i : Nat}
theorem ev_pk {R : O → Sls → Prop} : Ev (pk i) ρ R ↔ ∃ o, ρ[i]? = some (some o) ∧ R o ρ := by
  constructor
  · rintro ⟨a, ρ', e, r⟩
    obtain ⟨o, h1, h2, h3⟩ := pk_some e
    cases h2; subst h3
    exact ⟨a, h1, r⟩
  · rintro ⟨o, h, r⟩
    exact ⟨o, ρ, by unfold pk; rw [h], r⟩
theorem ev_rd {R : O → Sls → Prop} {d : D} (h : ρ[i]? = some (some (.val d))) : Ev (rd i) ρ R ↔ R (.val d) ρ := by
  have e : rd i ρ = some (.ok (.val d), ρ) := by unfold rd; rw [h]
  exact ⟨fun ⟨a, ρ', e2, r⟩ => by rw [e] at e2; cases e2; exact r, fun r => ⟨_, _, e, r⟩⟩
theorem ev_rdL {R : O → Sls → Prop} {os : List O} (h : ρ[i]? = some (some (.lst os))) : Ev (rd i) ρ R ↔ R (.val (.lst (fzs os))) (ρ.set i (some (.val (.lst (fzs os))))) := by
  have e : rd i ρ = some (.ok (.val (fz (.lst os))), ρ.set i (some (.val (fz (.lst os))))) := by unfold rd; rw [h]
  rw [fz] at e
  exact ⟨fun ⟨a, ρ', e2, r⟩ => by rw [e] at e2; cases e2; exact r, fun r => ⟨_, _, e, r⟩⟩
theorem ev_put {R : Unit → Sls → Prop} {o : O} : Ev (putS i o) ρ R ↔ i < ρ.length ∧ R () (ρ.set i (some o)) := by
  unfold Ev putS
  constructor
  · rintro ⟨a, ρ', e, r⟩
    split at e
    · rename_i h; cases e; exact ⟨h, r⟩
    · cases e
  · rintro ⟨h, r⟩
    exact ⟨(), _, by rw [if_pos h], r⟩
theorem ev_up {R : Unit → Sls → Prop} {f : O → Option O} : Ev (upM i f) ρ R ↔ ∃ o o', ρ[i]? = some (some o) ∧ f o = some o' ∧ R () (ρ.set i (some o')) := by
  constructor
  · rintro ⟨a, ρ', e, r⟩
    obtain ⟨o, o', h1, h2, h3, h4⟩ := upM_run e
    subst h4
    exact ⟨o, o', h1, h2, r⟩
  · rintro ⟨o, o', h1, h2, r⟩
    exact ⟨(), _, by unfold upM; rw [h1]; simp only; rw [h2], r⟩
theorem ev_wp {R : Unit → Sls → Prop} {own : List Nat} : Ev (wpM own) ρ R ↔ R () (wipeR ρ own) := ⟨fun ⟨a, ρ', e, r⟩ => by cases e; exact r, fun r => ⟨(), _, rfl, r⟩⟩
theorem ev_noX {α : Type} {f : M α} {R : α → Sls → Prop} : Ev (noX f) ρ R ↔ Ev f ρ R := by
  constructor
  · rintro ⟨a, ρ', e, r⟩
    unfold noX at e
    split at e
    · rename_i a' ρ2 q; cases e; exact ⟨a, ρ', q, r⟩
    · cases e
  · rintro ⟨a, ρ', e, r⟩
    exact ⟨a, ρ', by unfold noX; rw [e], r⟩
theorem ev_defM {n : Nat} {f : M Out} {R : O → Sls → Prop} : Ev (defM n f) ρ R ↔ Ev f (ρ ++ List.replicate (n - ρ.length) none) fun out ρ' => match out with
    | .rt o => R o ρ'
    | .nx => R (.val .non) ρ'
    | _ => False := by
  unfold Ev defM
  constructor
  · rintro ⟨a, ρ', e, r⟩
    split at e
    · rename_i o ρ2 q; cases e; exact ⟨_, _, q, r⟩
    · rename_i ρ2 q; cases e; exact ⟨_, _, q, r⟩
    · cases e
    · cases e
  · rintro ⟨out, ρ', e, r⟩
    cases out with
    | rt o => exact ⟨o, ρ', by rw [e], r⟩
    | nx => exact ⟨_, ρ', by rw [e], r⟩
    | bk => exact r.elim
    | ct => exact r.elim
theorem ev_call {ks : List (Option Nat)} {fs : M (List O)} {ms : List Bool} {sem : M O} {R : O → Sls → Prop} : Ev (callF ks fs ms sem) ρ R ↔ Ev fs ρ fun os ρ1 => ∃ c ρr, bld ks os ρ1 = some (c, ρr) ∧ Ev sem c fun o c' => R o (unbld ks (mask ms c') ρr) := by
  unfold callF
  refine Iff.trans (ev_bind (f := fs)) ?_
  constructor
  · rintro ⟨os, ρ1, e, a, ρ', e2, r⟩
    refine ⟨os, ρ1, e, ?_⟩
    cases q : bld ks os ρ1 with
    | none => simp [q] at e2
    | some p =>
      obtain ⟨c, ρr⟩ := p
      simp only [q] at e2
      cases q2 : sem c with
      | none => simp [q2] at e2
      | some z =>
        obtain ⟨rz, c'⟩ := z
        simp only [q2, Option.some.injEq, Prod.mk.injEq] at e2
        obtain ⟨rfl, rfl⟩ := e2
        exact ⟨c, ρr, q, a, c', q2, r⟩
  · rintro ⟨os, ρ1, e, c, ρr, q, a, c', q2, r⟩
    exact ⟨os, ρ1, e, a, _, by simp only [q, q2], r⟩
theorem ev_seqS {f k : M Out} {R : Out → Sls → Prop} : Ev (seqS f k) ρ R ↔ Ev f ρ fun out ρ1 => match out with
    | .nx => Ev k ρ1 R
    | o => R o ρ1 := by
  unfold seqS
  rw [ev_bind]
  constructor
  · exact fun h => h.mono fun out ρ1 r => by cases out <;> first | exact r | exact ev_pure.mp r
  · exact fun h => h.mono fun out ρ1 r => by cases out <;> first | exact r | exact ev_pure.mpr r
end
theorem ev_ite {α : Type} {fc : M Bool} {a b : M α} {ρ : Sls} {R : α → Sls → Prop} : Ev (iteM fc a b) ρ R ↔ Ev fc ρ fun c ρ1 => if c = true then Ev a ρ1 R else Ev b ρ1 R := by
  unfold iteM
  rw [ev_bind]
  constructor
  · exact fun h => h.mono fun c ρ1 r => by cases c <;> simpa using r
  · exact fun h => h.mono fun c ρ1 r => by cases c <;> simpa using r
/-- a loop by an invariant over what is still to come -/
theorem forL_inv {h : O → M Unit} {fb : M Out} {R : Out → Sls → Prop} (Iv : List D → Sls → Prop) (hs : ∀ d ds ρ, Iv (d :: ds) ρ → Ev (h (.val d)) ρ fun _ ρ1 => Ev fb ρ1 fun out ρ2 => match out with
    | .bk => R .nx ρ2
    | .rt o => R (.rt o) ρ2
    | _ => Iv ds ρ2) (he : ∀ ρ, Iv [] ρ → R .nx ρ) : ∀ (ds : List D) (ρ : Sls), Iv ds ρ → Ev (forL h fb ds) ρ R
  | [], ρ, i => by rw [forL, ev_pure]; exact he ρ i
  | d :: ds, ρ, i => by
    rw [forL, ev_bind]
    refine (hs d ds ρ i).mono fun _ ρ1 q => ?_
    rw [ev_bind]
    refine q.mono fun out ρ2 q2 => ?_
    cases out with
    | bk => exact ev_pure.mpr q2
    | rt o => exact ev_pure.mpr q2
    | nx => exact forL_inv Iv hs he ds ρ2 q2
    | ct => exact forL_inv Iv hs he ds ρ2 q2
theorem ev_if {α : Type} {p : Prop} [Decidable p] {a b : M α} {ρ : Sls} {R : α → Sls → Prop} : Ev (if p then a else b) ρ R ↔ if p then Ev a ρ R else Ev b ρ R := by
  by_cases h : p <;> simp [h]
theorem isi_1 {d : D} {c t : String} {b : Bool} (h1 : d.tyS = some t) (h2 : kitB t c = some b) : isiF [.val d, .val (.ty c)] = some (.val (.bl b)) := by
  unfold isiF
  have e : (O.val d).tyS = some t := h1
  simp only [e, h2, Option.map_some]
theorem kit_ii : kitB "int" "int" = some true := by decide +kernel
theorem kit_ib : kitB "int" "bool" = some false := by decide +kernel
theorem kit_tt : kitB "tuple" "tuple" = some true := by decide +kernel
theorem kit_ss : kitB "str" "str" = some true := by decide +kernel
theorem kit_lt : kitB "list" "tuple" = some false := by decide +kernel
theorem kit_ll : kitB "list" "list" = some true := by decide +kernel
theorem kit_it : kitB "int" "tuple" = some false := by decide +kernel
theorem kit_il : kitB "int" "list" = some false := by decide +kernel
theorem kit_tl : kitB "tuple" "list" = some false := by decide +kernel
theorem kit_tb : kitB "tuple" "bool" = some false := by decide +kernel
theorem kit_lb : kitB "list" "bool" = some false := by decide +kernel
theorem kit_nt : kitB "NoneType" "tuple" = some false := by decide +kernel
theorem kit_nl : kitB "NoneType" "list" = some false := by decide +kernel
theorem kit_nb : kitB "NoneType" "bool" = some false := by decide +kernel
theorem isi_ii (i : Int) : isiF [.val (.int i), .val (.ty "int")] = some (.val (.bl true)) := isi_1 rfl kit_ii
theorem isi_ib (i : Int) : isiF [.val (.int i), .val (.ty "bool")] = some (.val (.bl false)) := isi_1 rfl kit_ib
theorem isi_tt (ds : List D) : isiF [.val (.tup ds), .val (.ty "tuple")] = some (.val (.bl true)) := isi_1 rfl kit_tt
theorem isi_ss (x : Str) : isiF [.val (.str x), .val (.ty "str")] = some (.val (.bl true)) := isi_1 rfl kit_ss
section
variable {own own1 : List Nat} {h h1 : O → M Unit} {ft ft1 : M Bool} {fe fk fv : M O} {fi fi1 : M (List D)} {ρ ρ0 : Sls}
theorem ev_lcF {R : O → Sls → Prop} : Ev (lcF own fi h ft fe) ρ R ↔ Ev fi ρ fun ds ρ1 => ds.length ≤ lim ∧ Ev (lcL own h ft fe ds) (wipeR ρ1 own) fun os ρ2 => R (.lst os) ρ2 := by
  unfold lcF
  rw [ev_bind]
  constructor
  · refine fun q => q.mono fun ds ρ1 r => ?_
    rw [ev_if] at r
    split at r
    · rename_i hz
      rw [ev_noX, ev_bind, ev_wp, ev_bind] at r
      exact ⟨hz, r.mono fun os ρ2 r => ev_pure.mp r⟩
    · exact (ev_stuck.mp r).elim
  · refine fun q => q.mono fun ds ρ1 ⟨hz, r⟩ => ?_
    rw [ev_if, if_pos hz, ev_noX, ev_bind, ev_wp, ev_bind]
    exact r.mono fun os ρ2 r => ev_pure.mpr r
/-- items drawn one after another -/
theorem lcL_inv {R : List O → Sls → Prop} (Iv : List D → List O → Sls → Prop) (hs : ∀ d ds os ρ, Iv (d :: ds) os ρ → Ev (h (.val d)) ρ fun _ ρ1 => Ev ft ρ1 fun b ρ2 => if b = true then Ev fe ρ2 fun o ρ3 => Iv ds (os ++ [o]) (wipeR ρ3 own) else Iv ds os (wipeR ρ2 own))
    (he : ∀ os ρ, Iv [] os ρ → R os ρ) : ∀ (ds : List D) (os : List O) (ρ : Sls), Iv ds os ρ → Ev (lcL own h ft fe ds) ρ fun rest ρ' => R (os ++ rest) ρ'
  | [], os, ρ, i => by rw [lcL, ev_pure, List.append_nil]; exact he os ρ i
  | d :: ds, os, ρ, i => by
    rw [lcL, ev_bind]
    refine (hs d ds os ρ i).mono fun _ ρ1 q => ?_
    rw [ev_bind]
    refine q.mono fun b ρ2 q => ?_
    cases b with
    | true =>
      simp only [if_true] at q ⊢
      rw [ev_bind]
      refine q.mono fun o ρ3 q => ?_
      rw [ev_bind, ev_wp, ev_bind]
      refine (lcL_inv Iv hs he ds _ _ q).mono fun rest ρ' q => ?_
      rw [ev_pure]
      rw [List.append_assoc] at q
      exact q
    | false =>
      simp only [Bool.false_eq_true, if_false] at q ⊢
      rw [ev_bind, ev_wp]
      exact lcL_inv Iv hs he ds _ _ q
/-- items told by the source's items alone -/
theorem lcL_map {R : List O → Sls → Prop} {p : D → Bool} {e : D → O} {ds : List D} (hs : ∀ d ∈ ds, Ev (h (.val d)) ρ0 fun _ ρ1 => Ev ft ρ1 fun b ρ2 => b = p d ∧ (p d = true → Ev fe ρ2 fun o ρ3 => o = e d ∧ wipeR ρ3 own = ρ0) ∧ (p d = false → wipeR ρ2 own = ρ0))
    (hR : R ((ds.filter p).map e) ρ0) : Ev (lcL own h ft fe ds) ρ0 R := by
  refine (lcL_inv (own := own) (h := h) (ft := ft) (fe := fe) (R := fun os ρ => R os ρ) (fun rest os ρ => ρ = ρ0 ∧ (∀ d ∈ rest, d ∈ ds) ∧ os ++ (rest.filter p).map e = (ds.filter p).map e) ?_ ?_ ds [] ρ0 ⟨rfl, fun _ h => h, rfl⟩).mono fun rest ρ' q => by simpa using q
  · rintro d rest os ρ ⟨rfl, hm, ho⟩
    refine (hs d (hm d (by simp))).mono fun _ ρ1 q => q.mono fun b ρ2 ⟨e1, e2, e3⟩ => ?_
    subst e1
    cases hp : p d with
    | true =>
      simp only [if_true]
      refine (e2 hp).mono fun o ρ3 ⟨e4, e5⟩ => ⟨e5, fun x hx => hm x (by simp [hx]), ?_⟩
      subst e4
      rw [← ho, List.filter_cons_of_pos hp, List.map_cons, List.append_assoc]
      rfl
    | false =>
      simp only [Bool.false_eq_true, if_false]
      refine ⟨e3 hp, fun x hx => hm x (by simp [hx]), ?_⟩
      rw [← ho, List.filter_cons_of_neg (by simp [hp])]
  · rintro os ρ ⟨rfl, _, ho⟩
    simp only [List.filter_nil, List.map_nil, List.append_nil] at ho
    rw [ho]
    exact hR
theorem ev_lc2F {R : O → Sls → Prop} : Ev (lc2F own own1 fi h ft fi1 h1 ft1 fe) ρ R ↔ Ev fi ρ fun ds ρ1 => Ev (lc2L own own1 h ft fi1 h1 ft1 fe 0 ds) (wipeR ρ1 own) fun os ρ2 => R (.lst os) ρ2 := by
  unfold lc2F
  rw [ev_bind]
  constructor
  · refine fun q => q.mono fun ds ρ1 r => ?_
    rw [ev_noX, ev_bind, ev_wp, ev_bind] at r
    exact r.mono fun os ρ2 r => ev_pure.mp r
  · refine fun q => q.mono fun ds ρ1 r => ?_
    rw [ev_noX, ev_bind, ev_wp, ev_bind]
    exact r.mono fun os ρ2 r => ev_pure.mpr r
theorem lc2L_map {e : D → List O} : ∀ {ds : List D} {n m : Nat} {R : List O → Sls → Prop} (_ : ∀ d ∈ ds, Ev (h (.val d)) ρ0 fun _ ρ1 => Ev ft ρ1 fun b ρ2 => b = true ∧ Ev fi1 ρ2 fun ds1 ρ3 => ds1.length ≤ m ∧ Ev (lcL own1 h1 ft1 fe ds1) (wipeR ρ3 own1) fun os ρ4 => os = e d ∧ os.length ≤ m ∧ wipeR ρ4 own = ρ0)
    (_ : n + ds.length * m ≤ lim) (_ : R (ds.flatMap e) ρ0), Ev (lc2L own own1 h ft fi1 h1 ft1 fe n ds) ρ0 R
  | [], n, m, R, hs, hz, hR => by rw [lc2L, ev_pure]; exact hR
  | d :: ds, n, m, R, hs, hz, hR => by
    rw [List.length_cons, Nat.add_mul, Nat.one_mul] at hz
    rw [lc2L, ev_bind]
    refine (hs d (by simp)).mono fun _ ρ1 q => ?_
    rw [ev_bind]
    refine q.mono fun b ρ2 ⟨e1, q⟩ => ?_
    subst e1
    simp only [if_true]
    rw [ev_bind]
    refine q.mono fun ds1 ρ3 ⟨hl, q⟩ => ?_
    rw [ev_if, if_pos (by omega), ev_bind, ev_wp, ev_bind]
    refine q.mono fun os ρ4 ⟨e2, hl2, e3⟩ => ?_
    rw [ev_bind, ev_wp, e3, ev_bind]
    refine lc2L_map (m := m) (fun d' hd' => hs d' (by simp [hd'])) (by omega) ?_
    rw [ev_pure, e2]
    rw [List.flatMap_cons] at hR
    exact hR
end
/-! for the maths' stepping -/
theorem ev_id {α : Type} {f : M α} {ρ : Sls} {R : α → Sls → Prop} (h : Ev f ρ R) : Ev f ρ R := h
theorem ev_forK {h : O → M Unit} {fb : M Out} {ρ : Sls} {R : Out → Sls → Prop} {ds : List D} (q : Ev (forL h fb ds) ρ R) : Ev (forL h fb ds) ρ R := q
theorem if_ff {A B : Prop} (h : B) : if (false : Bool) = true then A else B := by simpa using h
theorem ev_ifN {α : Type} {ks : List Str} {q : Prop} [Decidable (ks.Nodup ∧ q)] {a b : M α} {ρ : Sls} {R : α → Sls → Prop} (h : ks.Nodup ∧ q) (h2 : Ev a ρ R) : Ev (if ks.Nodup ∧ q then a else b) ρ R := by rw [if_pos h]; exact h2
theorem ev_ifB {α : Type} {c : Bool} {a b : M α} {ρ : Sls} {R : α → Sls → Prop} : Ev (if c = true then a else b) ρ R ↔ if c = true then Ev a ρ R else Ev b ρ R := ev_if
theorem ite_id {c A B : Prop} [Decidable c] (h : if c then A else B) : if c then A else B := h
theorem ev_rdE {ρ : Sls} {i : Nat} {R : O → Sls → Prop} (q : ∃ d, ρ[i]? = some (some (.val d)) ∧ R (.val d) ρ) : Ev (rd i) ρ R := by
  obtain ⟨d, h, q⟩ := q
  exact (ev_rd h).mpr q
end PF

set_option Elab.async false
set_option linter.all false
set_option maxRecDepth 100000
set_option maxHeartbeats 2000000
namespace PF
open PySem PySem.Spec PyProof.Rows L2 LamX NdefX

/-! ### a lambda: made -/
/-- at f: a lambda with F's words and the body be -/
def LamO (f : Addr) (F : NF) (be : Expr) : HO := .ext fun h => ∃ (od : Option Addr) (sl : Array (Option Value)) (pm ctv : Value), h.get? f = some (⟨.type "function", od, .func (PySem.W.kla_fn F.name F.qual F.params be F.scope F.cl pm (.ref F.c) ctv), sl⟩ : Obj)
theorem lamO_at {P : Program} {w : World} {H : Hp} {h : Heap} {f : Addr} {F : NF} {be : Expr} (hok : HOk P w H h) (e : H f = some (LamO f F be)) : ∃ (od : Option Addr) (sl : Array (Option Value)) (pm ctv : Value), h.get? f = some (⟨.type "function", od, .func (PySem.W.kla_fn F.name F.qual F.params be F.scope F.cl pm (.ref F.c) ctv), sl⟩ : Obj) := (hok f _ e).1
/-- what the making does to the tables: nothing, or one more code object -/
def TabStep (H : Hp) (P c' : Addr) (q : Str) (H1 : Hp) : Prop := ∃ ps0 : Array Value, H P = some (.tbl ps0) ∧ ((H1 = H ∧ ∃ pos : Pos, codeAmong pos ps0.toList = some (.ref c')) ∨
  ∃ ps : Array Value, H c' = none ∧ H1 = upd (upd H P (.tbl ps)) c' (CodeO c' q) ∧ TriplesOk ps.toList ∧ ∀ (pos : Pos) (cv : Value), codeAmong pos ps.toList = some cv → cv = .ref c' ∨ codeAmong pos ps0.toList = some cv)
section
variable {X : Cx} {pins : List (Addr × Obj)} {σ : L2.St} {H : Hp} {s : Shared}
theorem inv_lam {F : NF} {be : Expr} {o : Obj} {t' : Nat} {pm ctv : Value} (I : Inv X pins σ H s) (ho : o = { cls := .type "function", data := .func (PySem.W.kla_fn F.name F.qual F.params be F.scope F.cl pm (.ref F.c) ctv) }) :
    Inv X pins σ (upd H s.heap.objs.size (LamO s.heap.objs.size F be)) { s with heap := s.heap.push o, toks := t' } := by
  subst ho
  have at_ : (s.heap.push ({ cls := .type "function", data := .func (PySem.W.kla_fn F.name F.qual F.params be F.scope F.cl pm (.ref F.c) ctv) } : Obj)).get? s.heap.objs.size = some ({ cls := .type "function", data := .func (PySem.W.kla_fn F.name F.qual F.params be F.scope F.cl pm (.ref F.c) ctv) } : Obj) := Heap.get?_push_size _ rfl
  exact I.laid (a := s.heap.objs.size) (fun b u z => Heap.get?_push_of_some _ z) (Nat.le_refl _) ⟨⟨_, _, pm, ctv, at_⟩, ⟨_, at_⟩, fun h1 h2 ⟨od, sl, m, t, z⟩ st => ⟨od, sl, m, t, st _ z⟩⟩
/-- the lambda's value is a new function object -/
def tLm (P : Addr) (q : Str) (mk : Addr → NF) (be : Expr) : TE := fun _ H Q =>
  (∃ ps : Array Value, H P = some (.tbl ps) ∧ TriplesOk ps.toList ∧ ∀ (pos : Pos) (cv : Value), codeAmong pos ps.toList = some cv → ∃ c, cv = .ref c ∧ H c = some (CodeO c q)) ∧
    ∀ f c' H1, TabStep H P c' q H1 → H1 f = none → Q (.ref f) (upd H1 f (LamO f (mk c') be))
theorem pe_lam {c P : Addr} {params : Arguments} {body : Expr} {scope : Scope} {pos : Pos} (TB : TabB X.base X.mg c P) (hcode : X.env.code = .ref c) (hdef : defaultsOf params X.env = ([], []))
    (hfree : X.Ok → ∀ y ∈ scope.names, y.2 = .free → ∃ c, X.env.cells.lookup y.1 = some c) :
    PE X (.Lambda params body scope pos) (tLm P (X.env.qual ++ "<lambda>") (fun c' => ⟨"<lambda>", X.env.qual ++ "<lambda>", params, [], scope, cloFrom X.env.cells scope.names [], c'⟩) body) := by
  refine ⟨fun pins s σ H Q I h => ?_⟩
  obtain ⟨⟨ps, hP, ht, ha⟩, hQ⟩ := h
  refine PySem.W.kla_eval hdef ?_
  have hfr := hfree I.ok
  have hB : s.heap.BuiltinsAt X.mg P := TB.bm.keeps I.bk
  have gP : s.heap.get? P = some { cls := .none, data := .fields ps } := I.hok P _ hP
  have hG : s.heap.Ns mainGlobals X.mg := I.mod.glob.keeps I.bk
  have hC : PySem.W.CodeHd s.heap c P := TB.code.keeps I.bk
  cases hc : codeAmong pos ps.toList with
  | none =>
    refine PySem.W.kla_makeFunction (mg := X.mg) (closure_ok hfr) I.ok.glob hG hcode hC gP ht hc TB.gP hB fun c' ctv h' tk hx hge hlt hrec htb => ?_
    obtain ⟨c2, oc, vs, t, e2, hoc, hd, hv⟩ := hrec
    cases e2
    have nC : H c' = none := I.hok.fresh hge
    have I1 := inv_table (t' := tk) (more := #[rawInt pos.line, rawInt pos.col, .ref c']) (h' := h') I hP (fun b o nb z => hx b o nb z) htb hge ⟨oc, vs, t, hoc, hd, hv⟩
    have I2 := inv_lam (F := ⟨"<lambda>", X.env.qual ++ "<lambda>", params, [], scope, cloFrom X.env.cells scope.names [], c'⟩) (be := body) (t' := tk) (pm := (X.mg "__name__").getD .none) (ctv := ctv) I1 rfl
    have eL : (ps ++ #[rawInt pos.line, rawInt pos.col, .ref c']).toList = ps.toList ++ [rawInt pos.line, rawInt pos.col, .ref c'] := by simp
    refine ⟨.ref _, _, I2, rfl, hQ _ c' _ ⟨ps, hP, .inr ⟨_, nC, rfl, by rw [eL]; exact PySem.TriplesOk_snoc _ _ _ _ ht, fun p' cv hcv => ?_⟩⟩ (I1.hok.fresh (Nat.le_refl _))⟩
    rw [eL] at hcv
    exact (among_app _ ht hcv).symm
  | some cv =>
    obtain ⟨c', e, hco⟩ := ha pos cv hc
    subst e
    refine PySem.W.kla_makeFunctionHit (mg := X.mg) (closure_ok hfr) I.ok.glob hG hcode hC gP ht hc hB fun ctv h' tk hx hsz => ?_
    have I1 : Inv X pins σ H { s with heap := h', toks := tk } := I.kept hx
    have I2 := inv_lam (F := ⟨"<lambda>", X.env.qual ++ "<lambda>", params, [], scope, cloFrom X.env.cells scope.names [], c'⟩) (be := body) (t' := tk) (pm := (X.mg "__name__").getD .none) (ctv := ctv) I1 rfl
    exact ⟨.ref _, _, I2, rfl, hQ _ c' H ⟨ps, hP, .inl ⟨rfl, pos, hc⟩⟩ (I1.hok.fresh (Nat.le_refl _))⟩
end
/-! ### over slots -/
section
variable {g : Gv} {H F Gx : Hp} {σ : L2.St} {ρ : Sls} {L : List (V × O)}
theorem upd_comm {a b : Addr} {u v : HO} (h : a ≠ b) : upd (upd H a u) b v = upd (upd H b v) a u := by
  funext c
  unfold upd
  by_cases h1 : c = b
  · subst h1
    rw [if_pos rfl, if_neg (Ne.symm h), if_pos rfl]
  · by_cases h2 : c = a
    · subst h2
      rw [if_neg h1, if_pos rfl, if_pos rfl]
    · rw [if_neg h1, if_neg h2, if_neg h2, if_neg h1]
theorem Good.tab {B : List (V × O)} (h : Good g H F Gx B) {p : Addr × Str} (hp : p ∈ g.ca.tb) {ps : Array Value} (ht : TriplesOk ps.toList) (hc : ∀ p' ∈ g.ca.tb, p'.1 = p.1 → ∀ (pos : Pos) (cv : Value), codeAmong pos ps.toList = some cv → ∃ c, cv = .ref c ∧ F c = some (CodeO c p'.2)) :
    Good g (upd H p.1 (.tbl ps)) F Gx B := by
  obtain ⟨S, hT, hF, hG, hFG, hS, hL⟩ := h.ex
  obtain ⟨t1, t2, t3, ps0, t4, t5, t6⟩ := hT p hp
  have nS : ∀ a, S a → a ≠ p.1 := fun a h e => t3 (e ▸ h)
  refine ⟨S, fun p' hp' => ?_, fun a o e => ?_, fun a o e => ?_, hFG, fun a h => ?_, RepL.frame g (Le.refl F) B S S (fun _ h => h) (fun a h => upd_ne (nS a h)) hL⟩
  · obtain ⟨u1, u2, u3, qs, u4, u5, u6⟩ := hT p' hp'
    by_cases e : p'.1 = p.1
    · exact ⟨u1, u2, u3, ps, by rw [e]; exact upd_same, ht, hc p' hp' e⟩
    · exact ⟨u1, u2, u3, qs, by rw [upd_ne e]; exact u4, u5, u6⟩
  · rw [upd_ne (fun q => by subst q; rw [t1] at e; cases e)]; exact hF a o e
  · rw [upd_ne (fun q => by subst q; rw [t2] at e; cases e)]; exact hG a o e
  · rw [upd_ne (nS a h)]; exact hS a h
theorem StG.tabs (st : StG g H F Gx σ ρ L) {p : Addr × Str} (hp : p ∈ g.ca.tb) : ∃ ps : Array Value, H p.1 = some (.tbl ps) ∧ TriplesOk ps.toList ∧ ∀ (pos : Pos) (cv : Value), codeAmong pos ps.toList = some cv → ∃ c, cv = .ref c ∧ H c = some (CodeO c p.2) := by
  obtain ⟨S, hT, hF, _⟩ := st.gd.ex
  obtain ⟨_, _, _, ps, t4, t5, t6⟩ := hT p hp
  refine ⟨ps, t4, t5, fun pos cv hc => ?_⟩
  obtain ⟨c, e1, e2⟩ := t6 pos cv hc
  exact ⟨c, e1, hF _ _ e2⟩
/-- where every code object that H knows under these names is frozen -/
theorem StG.lam (st : StG g H F Gx σ ρ L) {p : Addr × Str} (hp : p ∈ g.ca.tb) (hu : ∀ p' ∈ g.ca.tb, p'.1 = p.1 → p' = p) {c' f : Addr} {H1 : Hp} {u : HO} (hs : TabStep H p.1 c' p.2 H1) (hf : H1 f = none) :
    ∃ F1, Le F F1 ∧ F1 f = some u ∧ F1 c' = some (CodeO c' p.2) ∧ StG g (upd H1 f u) F1 Gx σ ρ L := by
  obtain ⟨S, hT, _⟩ := st.gd.ex
  obtain ⟨t1, t2, t3, ps0, t4, t5, t6⟩ := hT p hp
  obtain ⟨ps1, e0, hs⟩ := hs
  rw [t4] at e0; cases e0
  rcases hs with ⟨rfl, pos, hc⟩ | ⟨ps, nC, rfl, ht, ha⟩
  · obtain ⟨le, g2⟩ := st.gd.newF (u := u) hf
    obtain ⟨c, e1, e2⟩ := t6 pos _ hc
    cases e1
    exact ⟨_, le, upd_same, le _ _ e2, st.wf, st.len, g2⟩
  · have ne : p.1 ≠ c' := fun z => by rw [z, nC] at t4; cases t4
    obtain ⟨le1, g1⟩ := st.gd.newF (u := CodeO c' p.2) nC
    have g2 := Good.tab g1 hp ht fun p' hp' e pos cv hc => by
      rw [hu p' hp' e]
      rcases ha pos cv hc with rfl | hc2
      · exact ⟨c', rfl, upd_same⟩
      · obtain ⟨c, e1, e2⟩ := t6 pos cv hc2
        exact ⟨c, e1, le1 _ _ e2⟩
    rw [upd_comm (Ne.symm ne)] at g2
    obtain ⟨le2, g3⟩ := g2.newF (u := u) hf
    exact ⟨_, le1.trans le2, upd_same, le2 _ _ upd_same, st.wf, st.len, g3⟩
end
end PF

set_option Elab.async false
set_option linter.all false
set_option maxRecDepth 100000
set_option maxHeartbeats 2000000
namespace PF
open PySem PySem.Spec PyProof.Rows L2 LamX NdefX

/-! ### a lambda: called -/
section
variable {CX : CXT} {P : Program} {w : World} {K : PySem.W.Frag} {mg : Str → Option Value} {base : Heap} {N ps fr : List Str} {F : NF} {be : Expr} {f : Addr} {k : Nat} {A : Around} {outer : List Env} {s : Shared} {H : Hp} {E : XK} {us : List Value} {vs : List V} {ws : List (Option V)} {Q : VK} {tb : TE}
theorem run_lam (S : NScope N ps fr F.scope) (hb : ∀ (pm ctv : Value) (us : List Value), us.length = ps.length → bindArgs (PySem.W.kla_fn F.name F.qual F.params be F.scope F.cl pm (.ref F.c) ctv) ⟨us, []⟩ = pure (ps.zip us)) (hr : Room (k + 1) A)
    (e0 : Env0 P w K mg base A outer s H) (hf : H f = some (LamO f F be)) (hc : H F.c = some (CodeO F.c F.qual)) (C : CellsAt F.cl fr ws s.heap H) (r : Vals vs us) (hl : vs.length = ps.length)
    (hbody : Room k (A.deeper (envF F f s.heap.objs.size)) → PE (ncx CX P w K mg base N F f A outer s H E) be tb) (hq : tb (startF N vs ws) H Q) : codeAny (model P w) A (.call (.ref f) ⟨us, []⟩) (CR CX outer P w H s Q E) s := by
  have lim : s.heap.NoLimit := e0.mod.nolimit.keeps fun b o z => (e0.bs b o z).1
  obtain ⟨od, sl, pm, ctv, ho⟩ := lamO_at e0.hok hf
  refine PySem.W.kla_callFunE hr.depth ho rfl S.co S.gen rfl (codeO_at e0.hok hc) ?_
  rw [hb pm ctv us (by rw [← r.length]; exact hl)]
  refine wpAny_pure (wpAny_newFunctionEnv S.nocell (fun ⟨n, _⟩ hy => S.par n (List.of_mem_zip hy).1) (fun h₁ hns hsb => ⟨lim.fresh _ hsb, ?_⟩) S.kind)
  show codeAny _ _ (.expr be (envF F f s.heap.objs.size)) _ _
  have kp : ∀ b o, s.heap.get? b = some o → h₁.get? b = some o := fun b o z => hsb.extBut b o (Nat.ne_of_lt (Heap.lt_size z)) (Heap.get?_push_of_some _ z)
  have J : Inv (ncx CX P w K mg base N F f A outer s H E) [] (startF N vs ws) H { s with heap := h₁, toks := s.toks + (ps.zip us).length } := inv_startN S hr.hd e0 hl r C hns kp
  refine PySem.W.kla_codeExpr (wpAny_mono ((hbody (hr.deeper _)).run [] _ _ H Q J hq) (fun v s' z => ?_) fun e s' z => z)
  obtain ⟨w', H', J', rv, q⟩ := z
  exact ⟨w', H', J'.os, J'.bare, J'.base, J'.hok, rv, q⟩
end
/-! ### over slots -/
def capS (ρ : Sls) : List Nat → Option (List D)
  | [] => some []
  | j :: js => match ρ[j]? with
    | some (some (.val w)) => (capS ρ js).map (w :: ·)
    | _ => none
section
variable {g : Gv} {H F Gx : Hp} {σ : L2.St} {ρ : Sls} {L : List (V × O)}
theorem cap_ok (st : StG g H F Gx σ ρ L) : ∀ {js : List Nat} {ws : List D}, capS ρ js = some ws → ∃ vs : List V, js.map (slotAt σ) = vs.map some ∧ RepVs g F ws vs
  | [], ws, e => by
    rw [capS] at e; cases e
    exact ⟨[], rfl, by rw [RepVs]⟩
  | j :: js, ws, e => by
    rw [capS] at e
    split at e
    · rename_i w hj
      obtain ⟨ws', e1, rfl⟩ := Option.map_eq_some_iff.mp e
      obtain ⟨vs, h1, h2⟩ := cap_ok st e1
      obtain ⟨v, S, hv, r⟩ := st.peek hj
      rw [RepO] at r
      refine ⟨v :: vs, ?_, by rw [RepVs]; exact ⟨v, vs, rfl, r, h2⟩⟩
      rw [List.map_cons, List.map_cons, h1, slotAt_of hv]
    · cases e
theorem Good.vals {B : List (V × O)} (h : Good g H F Gx B) : ∀ {ds : List D} {vs : List V}, RepVs g F ds vs → Good g H F Gx (slL (vs.map some) (ds.map fun d => some (.val d)) ++ B)
  | [], vs, r => by
    rw [RepVs] at r; subst r
    exact h
  | d :: ds, vs, r => by
    rw [RepVs] at r
    obtain ⟨v, w, rfl, r1, r2⟩ := r
    exact (Good.vals h r2).ofVal r1
theorem vals_len : ∀ {ds : List D} {vs : List V}, RepVs g F ds vs → vs.length = ds.length
  | [], vs, r => by rw [RepVs] at r; subst r; rfl
  | d :: ds, vs, r => by
    rw [RepVs] at r
    obtain ⟨v, w, rfl, r1, r2⟩ := r
    rw [List.length_cons, List.length_cons, vals_len r2]
end
/-- a lambda of the running frame, by what its body computes -/
structure LamK (X : Cx) (ca : Ca) (k : Nat) (mk : Addr → NF) (be : Expr) (x : Str) (fr : List Str) (js : List Nat) (fb : M O) : Prop where
  S : ∀ c', NScope (x :: fr) [x] fr (mk c').scope
  hb : ∀ (c' : Addr) (pm ctv u : Value), bindArgs (PySem.W.kla_fn (mk c').name (mk c').qual (mk c').params be (mk c').scope (mk c').cl pm (.ref (mk c').c) ctv) ⟨[u], []⟩ = pure [(x, u)]
  cap : X.Ok → ∀ c', Caps X (mk c').cl fr js
  cc : ∀ c', (mk c').c = c'
  body : ∀ (c' f : Addr) (A : Around) (outer : List Env) (s : Shared) (H : Hp), Room k (A.deeper (envF (mk c') f s.heap.objs.size)) → PE (ncx (L2.CX X.prog X.w) X.prog X.w X.K X.mg X.base (x :: fr) (mk c') f A outer s H (fun _ _ _ => False)) be (T (gv X ca) W0 fb)
section
variable {X : Cx} {ca : Ca} {k : Nat} {mk : Addr → NF} {be : Expr} {x : Str} {fr : List Str} {js : List Nat} {fb : M O} {pins : List (Addr × Obj)} {σ : L2.St} {H F Gx : Hp} {ρ ρ2 : Sls} {s : Shared} {A : Around} {E : Value → Shared → Prop}
theorem env0_of {B : Around} (e : Env0 X.prog X.w X.K X.mg X.base X.A X.stack s H) (h : B.frames = X.A.frames) : Env0 X.prog X.w X.K X.mg X.base B X.stack s H := ⟨h.trans e.frames, e.mod, e.bs, e.bsz, e.funs, e.frf, e.hok, e.bare⟩
theorem lam_call (LK : LamK X ca k mk be x fr js fb) (hr : Room (k + 1) A) (hA : A.frames = X.A.frames) (I : Inv X pins σ H s) (st : StG (gv X ca) H F Gx σ ρ []) {f c' : Addr} (hf : F f = some (LamO f (mk c') be)) (hc : F c' = some (CodeO c' (mk c').qual))
    {ws : List D} (hcap : capS ρ js = some ws) {d kd : D} {v : V} {u : Value} (rd : RepV (gv X ca) F d v) (rv : RelV v u) (hk : fb (some (.val d) :: ws.map fun w => some (.val w)) = some (.ok (.val kd), ρ2)) {Q : Value → Shared → Prop}
    (hQ : ∀ ku s' H' F' kv, Inv X pins σ H' s' → Le F F' → StG (gv X ca) H' F' Gx σ ρ [] → RelV kv ku → RepV (gv X ca) F' kd kv → Q ku s') : wpAny (model X.prog X.w) A (call (.ref f) [u]) Q E s := by
  obtain ⟨vs, hvs, rvs⟩ := cap_ok st hcap
  have lenc : js.length = fr.length := by
    have q := congrArg List.length (LK.cap I.ok c').at_
    simpa using q
  have lvs : vs.length = fr.length := by
    have q := congrArg List.length hvs
    rw [List.length_map, List.length_map] at q
    omega
  obtain ⟨Gx', gA, back⟩ := Good.aside (A := []) (B := slL σ ρ) st.gd
  have rds : RepVs (gv X ca) F (d :: ws) (v :: vs) := by rw [RepVs]; exact ⟨v, vs, rfl, rd, rvs⟩
  have gB := Good.vals gA rds
  rw [List.append_nil] at gB
  have hsf : startF (x :: fr) [v] (js.map (slotAt σ)) = (v :: vs).map some := by
    unfold startF
    rw [hvs]
    simp [lvs]
  have st2 : StG (gv X ca) H F Gx' ((v :: vs).map some) ((d :: ws).map fun d => some (.val d)) [] := by
    refine ⟨fun i o e => ?_, by have := vals_len rds; simpa using this, gB⟩
    have hi : i < ((d :: ws).map fun d => some (O.val d)).length := (List.getElem?_eq_some_iff.mp e).1
    have hi2 : i < (v :: vs).length := by have := vals_len rds; simp at hi this ⊢; omega
    exact ⟨(v :: vs)[i], by rw [List.getElem?_map, List.getElem?_eq_getElem hi2]; rfl⟩
  have CA : CellsAt (mk c').cl fr (js.map (slotAt σ)) s.heap H := cells_of I (LK.cap I.ok c')
  have rc := run_lam (CX := L2.CX X.prog X.w) (P := X.prog) (w := X.w) (K := X.K) (mg := X.mg) (base := X.base) (ps := [x]) (us := [u]) (vs := [v]) (E := fun _ _ _ => False)
    (Q := fun w H' => ∃ F', Le F F' ∧ StG (gv X ca) H' F' Gx σ ρ [] ∧ RepV (gv X ca) F' kd w) (LK.S c') (fun pm ctv us hl => match us, hl with | [u], _ => LK.hb c' pm ctv u) hr (env0_of I.env0 hA) (st.le _ _ hf) (by rw [LK.cc]; exact st.le _ _ hc) CA (.cons rv .nil) rfl (LK.body c' f A X.stack s H) (by
      rw [hsf]
      refine ⟨F, Gx', _, st2, ?_⟩
      unfold Rn
      rw [show ((d :: ws).map fun d => some (O.val d)) = some (.val d) :: ws.map fun w => some (.val w) from rfl, hk]
      intro H' F' le w st3
      have gC : Good (gv X ca) H' F' Gx' [] := Good.dropL (A := [(w, O.val kd)] ++ slL _ ρ2) (by simpa using st3.gd)
      exact ⟨F', le, ⟨st.wf, st.len, back H' F' [] le gC⟩, Good.val (B := slL _ _) st3.gd⟩)
  refine wpAny_call (codeAny_mono rc fun r s' hq => ?_)
  cases r with
  | error e =>
    obtain ⟨_, _, _, _, _, _, _, _, _, _, _, _, z⟩ := hq
    exact z.elim
  | ok fl =>
    cases fl with
    | ret ku =>
      obtain ⟨kv, H', I', rk, F', le, st', rr⟩ := I.after hq
      exact hQ ku s' H' F' kv I' le st' rk rr
    | next => exact False.elim hq
    | brk => exact False.elim hq
    | cont => exact False.elim hq
end
end PF

set_option Elab.async false
set_option linter.all false
set_option maxRecDepth 100000
set_option maxHeartbeats 2000000
namespace PF
open PySem PySem.Spec PyProof.Rows L2 LamX NdefX

/-! ### min(xs, key=lambda ..) -/
/-- (item, key): the first least -/
def bestK (p : D × D) (rest : List (D × D)) : D × D := rest.foldl (fun b q => if PySem.W.dataLt (toPy q.2) (toPy b.2) = true then q else b) p
section
variable {X : Cx} {ca : Ca} {pins : List (Addr × Obj)} {σ : L2.St} {F0 Gx : Hp} {ρ : Sls} {l I S : Addr} {ds : List D} {s : Shared}
/-- a place that nobody tracks, that no frame has -/
def Lone (X : Cx) (pins : List (Addr × Obj)) (b : Addr) : Prop := b ≠ X.env.locals ∧ b ∉ X.fs ∧ (b ∈ X.ex ∨ X.s_0.heap.objs.size ≤ b) ∧ (∀ x c, X.env.cells.lookup x = some c → c ≠ b) ∧ ∀ p ∈ X.pn ++ pins, p.1 ≠ b
theorem Lone.fp {H : Hp} {b : Addr} (h : Lone X pins b) (n : H b = none) : FpOk X pins H b := ⟨n, h⟩
/-- where the search stands: j items drawn, the best is b -/
structure MinSt (X : Cx) (ca : Ca) (pins : List (Addr × Obj)) (σ : L2.St) (ρ : Sls) (F0 Gx : Hp) (l I S : Addr) (j : Nat) (b : D × D) (s : Shared) : Prop where
  ex : ∃ H F, Inv X pins σ H s ∧ StG (gv X ca) H F Gx σ ρ [] ∧ Le F0 F ∧ H I = none ∧ H S = none ∧ s.heap.IsListIter I l j ∧ ∃ vb kb c, s.heap.get? S = some { cls := .type "list", dict := none, data := .seq #[vb, kb] c, slots := #[] } ∧
    (∃ v, RelV v vb ∧ RepV (gv X ca) F b.1 v) ∧ ∃ v, RelV v kb ∧ RepV (gv X ca) F b.2 v
theorem reads_of {H F : Hp} (I : Inv X pins σ H s) (le : Le F H) {d : D} {v : V} {u : Value} (h : okD 16 d = true) (r : RepV (gv X ca) F d v) (q : RelV v u) : ∃ as, Reads s.heap u (toPy d) as := Dp.reads I _ v _ (dp_of 16 d v le h r) q
theorem iter_keep {h h' : Heap} {j : Nat} (it : h.IsListIter I l j) (k : ∀ o, h.get? I = some o → h'.get? I = some o) : h'.IsListIter I l j := by
  obtain ⟨o, h1, h2, h3⟩ := it
  exact ⟨o, k o h1, h2, h3⟩
end
section
variable {X : Cx} {ca : Ca} {k : Nat} {mk : Addr → NF} {be : Expr} {x : Str} {fr : List Str} {js : List Nat} {fb : M O} {pins : List (Addr × Obj)} {σ : L2.St} {F0 Gx : Hp} {ρ : Sls} {l I S f c' : Addr} {vs : List V} {ds : List D} {ws : List D}
theorem plain_list {h : Heap} {a : Addr} {its : Array Value} (p : PlainL h a its) : h.IsList a its := by
  obtain ⟨o, n, h1, h2, _, h4⟩ := p
  exact ⟨o, h1, h2, n, h4⟩
theorem min_next (hl : F0 l = some (.lst vs)) (rv : RepVs (gv X ca) F0 ds vs) (lI : Lone X pins I) (ne : I ≠ S) {H F : Hp} {s : Shared} {j : Nat} {d : D} {oS : Obj} (J : Inv X pins σ H s) (st : StG (gv X ca) H F Gx σ ρ []) (le : Le F0 F) (nI : H I = none)
    (it : s.heap.IsListIter I l j) (hS : s.heap.get? S = some oS) (hd : ds[j]? = some d) {Q : Option Value → Shared → Prop} {E : Value → Shared → Prop}
    (hQ : ∀ u s1, Inv X pins σ H s1 → s1.heap.IsListIter I l (j + 1) → s1.heap.get? S = some oS → (∃ w, RelV w u ∧ RepV (gv X ca) F d w) → Q (some u) s1) : wpAny (model X.prog X.w) X.A.in1 (pyNext (.ref I)) Q E s := by
  obtain ⟨its, hv, pl, _⟩ := J.list (SqL.of (st.le _ _ (le _ _ hl)))
  obtain ⟨w, hw, rw⟩ := rv.get hd
  obtain ⟨u, hu, ru⟩ := hv.get hw
  refine wpAny_pyNext_list_item it (plain_list pl) (i := j) (x := u) (by simpa using hu) fun h' it' sb => ?_
  have kp : ∀ b o, b ≠ I → s.heap.get? b = some o → h'.get? b = some o := fun b o nb z => by rw [sb.2 b nb]; exact z
  exact hQ u _ (J.turned (t' := s.toks) kp nI lI.1 lI.2.2.1 lI.2.2.2.1 lI.2.2.2.2) it' (kp S _ (Ne.symm ne) hS) ⟨w, ru, RepV.mono (gv X ca) le _ _ rw⟩
theorem min_end (hl : F0 l = some (.lst vs)) (rv : RepVs (gv X ca) F0 ds vs) (lI : Lone X pins I) (ne : I ≠ S) {H F : Hp} {s : Shared} {j : Nat} {oS : Obj} (hh : X.A.handled = none) (J : Inv X pins σ H s) (st : StG (gv X ca) H F Gx σ ρ []) (le : Le F0 F) (nI : H I = none)
    (it : s.heap.IsListIter I l j) (hS : s.heap.get? S = some oS) (hd : ds.length ≤ j) {Q : Option Value → Shared → Prop} {E : Value → Shared → Prop}
    (hQ : ∀ s1, Inv X pins σ H s1 → s1.heap.get? S = some oS → Q none s1) : wpAny (model X.prog X.w) X.A.in1 (pyNext (.ref I)) Q E s := by
  obtain ⟨its, hv, pl, _⟩ := J.list (SqL.of (st.le _ _ (le _ _ hl)))
  have hlen : its.length ≤ j := by rw [← hv.length, rv.length]; exact hd
  refine wpAny_pyNext_list_end hh it (plain_list pl) (by simpa using hlen) fun h' sb => ?_
  have kp : ∀ b o, b ≠ I → s.heap.get? b = some o → h'.get? b = some o := fun b o nb z => sb b o nb z
  exact hQ _ (J.turned (t' := s.toks) kp nI lI.1 lI.2.2.1 lI.2.2.2.1 lI.2.2.2.2) (kp S _ (Ne.symm ne) hS)
theorem min_key (LK : LamK X ca k mk be x fr js fb) (hr : Room (k + 2) X.A) (lI : Lone X pins I) (lS : Lone X pins S) (hf : F0 f = some (LamO f (mk c') be)) (hc : F0 c' = some (CodeO c' (mk c').qual)) (hcap : capS ρ js = some ws)
    {H F : Hp} {s : Shared} {j : Nat} {d kd : D} {u : Value} {oS : Obj} (J : Inv X pins σ H s) (st : StG (gv X ca) H F Gx σ ρ []) (le : Le F0 F) (nI : H I = none) (nS : H S = none) (it : s.heap.IsListIter I l j) (hS : s.heap.get? S = some oS) (cS : ∀ v, oS.data ≠ .cell v)
    (hu : ∃ w, RelV w u ∧ RepV (gv X ca) F d w) (hk : ∃ ρ2, fb (some (.val d) :: ws.map fun w => some (.val w)) = some (.ok (.val kd), ρ2)) {Q : Value → Shared → Prop} {E : Value → Shared → Prop}
    (hQ : ∀ ku s2 H2 F2, Inv X pins σ H2 s2 → StG (gv X ca) H2 F2 Gx σ ρ [] → Le F F2 → H2 I = none → H2 S = none → s2.heap.IsListIter I l j → s2.heap.get? S = some oS → (∃ w, RelV w ku ∧ RepV (gv X ca) F2 kd w) → Q ku s2) :
    wpAny (model X.prog X.w) X.A.in1 (call (.ref f) [u]) Q E s := by
  obtain ⟨oI, hI, ci, di⟩ := it
  obtain ⟨w, ru, rw⟩ := hu
  obtain ⟨ρ2, hk⟩ := hk
  have J2 : Inv X (pins ++ [(I, oI), (S, oS)]) σ H s := J.pins_of fun p hp => by
    rcases List.mem_append.mp hp with z | z
    · exact J.pin p (List.mem_append_right _ z)
    · rcases List.mem_cons.mp z with rfl | z
      · exact ⟨hI, nI, lI.1, lI.2.1, fun v q => by rw [di] at q; cases q⟩
      · rw [List.mem_singleton.mp z]
        exact ⟨hS, nS, lS.1, lS.2.1, cS⟩
  refine lam_call LK hr.in1 rfl J2 st (le _ _ hf) (le _ _ hc) hcap rw ru hk fun ku s2 H2 F2 kv J3 le2 st2 rk rkv => ?_
  have pI := J3.pin (I, oI) (by simp)
  have pS := J3.pin (S, oS) (by simp)
  exact hQ ku s2 H2 F2 (J3.unpinned) st2 le2 pI.2.1 pS.2.1 ⟨oI, pI.1, ci, di⟩ pS.1 ⟨kv, rk, rkv⟩
/-- S written -/
theorem min_wr {H F : Hp} {s : Shared} {oS : Obj} {xs ys : Array Value} {n : Nat} (J : Inv X pins σ H s) (lS : Lone X pins S) (nS : H S = none) : Inv X pins σ H { s with heap := s.heap.update S (Obj.mapSeq fun _ => ys), toks := s.toks } :=
  J.turned (t' := s.toks) (fun b o nb z => (Heap.get?_update_other _ _ (Ne.symm nb)).trans z) nS lS.1 lS.2.2.1 lS.2.2.2.1 lS.2.2.2.2
theorem alike_ne {a b : PyData} (h : a ≠ .none) : a ≠ .none := h
/-- the keys may be put in order -/
def keysOk (ks : List D) : Bool := ks.all (okD 16) && ks.all (fun x => ks.all fun y => PySem.W.alike (toPy x) (toPy y)) && ks.all (fun x => match x with | .non => false | _ => true)
theorem keysOk_is {ks : List D} (h : keysOk ks = true) : (∀ d ∈ ks, okD 16 d = true) ∧ (∀ a ∈ ks, ∀ b ∈ ks, PySem.W.alike (toPy a) (toPy b) = true) ∧ ∀ a ∈ ks, toPy a ≠ .none := by
  unfold keysOk at h
  rw [Bool.and_eq_true, Bool.and_eq_true, List.all_eq_true, List.all_eq_true, List.all_eq_true] at h
  obtain ⟨⟨h1, h2⟩, h3⟩ := h
  refine ⟨h1, fun a ha b hb => List.all_eq_true.mp (h2 a ha) b hb, fun a ha => ?_⟩
  have q := h3 a ha
  have q1 := h1 a ha
  cases a <;> first
    | (simp [toPy]; done)
    | (cases q; done)
    | (simp [okD] at q1; done)
/-- the turns behind the first -/
theorem min_loop (LK : LamK X ca k mk be x fr js fb) (hr : Room (k + 2) X.A) (hu : X.A.units + 65 < cLine) (hh : X.A.handled = none) (lI : Lone X pins I) (lS : Lone X pins S) (ne : I ≠ S) (hf : F0 f = some (LamO f (mk c') be)) (hc : F0 c' = some (CodeO c' (mk c').qual))
    (hl : F0 l = some (.lst vs)) (rv : RepVs (gv X ca) F0 ds vs) (hcap : capS ρ js = some ws) {ks : List D} (hk : ∀ (j : Nat) (d kd : D), ds[j]? = some d → ks[j]? = some kd → ∃ ρ2, fb (some (.val d) :: ws.map fun w => some (.val w)) = some (.ok (.val kd), ρ2)) (hks : keysOk ks = true) (hlen : ks.length = ds.length)
    {R : Result → Shared → Prop} : ∀ (rest : List (D × D)) (j : Nat) (b : D × D) (s : Shared), (ds.zip ks).drop j = rest → b.2 ∈ ks → MinSt X ca pins σ ρ F0 Gx l I S j b s →
      (∀ u s2 H2 F2, Inv X pins σ H2 s2 → Le F0 F2 → StG (gv X ca) H2 F2 Gx σ ρ [] → (∃ w, RelV w u ∧ RepV (gv X ca) F2 (bestK b rest).1 w) → R (.ok (.ret u)) s2) →
      codeAny (model X.prog X.w) X.A (.builtin "min.loop" ⟨[.ref I, .ref f, .ref S], []⟩) R s
  | rest, j, b, s, e, hb, m, hR => by
    have hname : (toString "min" ++ toString ".loop" : String) = "min.loop" := by decide
    obtain ⟨H, F, J, st, le, nI, nS, it, vb, kb, c, hS, rvb, rkb⟩ := m.ex
    obtain ⟨ok1, ok2, ok3⟩ := keysOk_is hks
    refine codeAny_builtin PySem.F.entry_min_loop ?_; rw [Around.under_plainId PySem.F.plain_min_loop _]
    show wpAny _ X.A.in1 (seqItems? (.ref S) >>= _) _ _ s
    refine wpAny_bind (wpAny_seqItems hS rfl ?_); show wpAny _ X.A.in1 (tryCatch (pyNext (.ref I)) _ >>= _) _ _ s
    cases rest with
    | nil =>
      have hj : ds.length ≤ j := by
        have q := List.drop_eq_nil_iff.mp e
        rw [List.length_zip] at q
        omega
      refine wpAny_bind (wpAny_tryCatch (min_end hl rv lI ne hh J st le nI it hS hj fun s1 J1 hS1 => ?_))
      show wpAny _ X.A.in1 (updateSeq S (fun _ => #[]) >>= _) _ _ _
      refine wpAny_bind ?_; refine wpAny_updateSeq hS1 rfl (wpAny_bind (wpAny_letGo (wpAny_pure ?_)))
      obtain ⟨w, q1, q2⟩ := rvb
      exact hR vb _ H F (min_wr (xs := #[]) (n := 0) (F := F) (oS := seqObj "list" #[] 0) J1 lS nS) le st ⟨w, q1, q2⟩
    | cons p rest =>
      obtain ⟨d, kd⟩ := p
      have hz : (ds.zip ks)[j]? = some (d, kd) := by
        have q := congrArg (fun x : List (D × D) => x[0]?) e
        simpa using q
      obtain ⟨hd, hkd⟩ := List.getElem?_zip_eq_some.mp hz
      have e' : (ds.zip ks).drop (j + 1) = rest := by
        have q := congrArg List.tail e
        rwa [List.tail_drop] at q
      have hkm : kd ∈ ks := List.mem_of_getElem? hkd
      refine wpAny_bind (wpAny_tryCatch (min_next hl rv lI ne J st le nI it hS hd fun u s1 J1 it1 hS1 hu1 => ?_))
      show wpAny _ X.A.in1 (tryCatch (holding [u] (call (.ref f) [u])) _ >>= _) _ _ _
      refine wpAny_bind (wpAny_tryCatch (wpAny_holding (min_key LK hr lI lS hf hc hcap J1 st le nI nS it1 hS1 (fun v q => by cases q) hu1 (hk j d kd hd hkd) fun ku s2 H2 F2 J2 st2 le2 nI2 nS2 it2 hS2 rk2 => ?_)))
      show wpAny _ X.A.in1 (tryCatch (holding [u, ku] (richCompare .Lt ku kb >>= _)) _ >>= _) _ _ _
      obtain ⟨wk, rk, rkr⟩ := rk2
      obtain ⟨wb, rb, rbr⟩ := rkb
      obtain ⟨as1, rd1⟩ := reads_of J2 st2.le (ok1 kd hkm) rkr rk
      obtain ⟨as2, rd2⟩ := reads_of J2 st2.le (ok1 b.2 hb) (RepV.mono (gv X ca) le2 _ _ rbr) rb
      have lt := PySem.W.rcLt_alike (toPy kd) (toPy b.2) X.A.in1 s2 ku kb _ _ rd1 rd2 (ok2 kd hkm b.2 hb) (ok3 kd hkm) (by
        have := (okD_lay 16 kd (ok1 kd hkm)).2
        show X.A.units + 1 + _ < cLine
        omega)
      refine wpAny_bind (wpAny_tryCatch (wpAny_holding (wpAny_bind (lt _ _ _ _ ?_))))
      refine wpAny_bind (wpAny_holding (wpAny_truthy_bool ?_)); refine wpAny_bind (wpAny_letGo (wpAny_pure ?_))
      have rv2 : ∃ w, RelV w u ∧ RepV (gv X ca) F2 d w := by
        obtain ⟨w, q1, q2⟩ := hu1
        exact ⟨w, q1, RepV.mono (gv X ca) le2 _ _ q2⟩
      have rvb2 : ∃ w, RelV w vb ∧ RepV (gv X ca) F2 b.1 w := by
        obtain ⟨w, q1, q2⟩ := rvb
        exact ⟨w, q1, RepV.mono (gv X ca) le2 _ _ q2⟩
      cases hlt : PySem.W.dataLt (toPy kd) (toPy b.2) with
      | true =>
        simp only [if_true]
        refine wpAny_bind ?_; refine wpAny_updateSeq hS2 rfl (wpAny_bind (wpAny_letGo ?_)); rw [hname]
        refine wpAny_pure ⟨plainId_quiet PySem.F.plain_min_loop _, min_loop LK hr hu hh lI lS ne hf hc hl rv hcap hk hks hlen rest (j + 1) (d, kd) _ e' hkm
          ⟨H2, F2, min_wr (xs := #[]) (n := 0) (F := F2) (oS := seqObj "list" #[] 0) J2 lS nS2, st2, le.trans le2, nI2, nS2, iter_keep it2 fun o z => (Heap.get?_update_other _ _ (Ne.symm ne)).trans z, u, ku, _, Heap.get?_update_self _ hS2 rfl, rv2, wk, rk, rkr⟩ fun u3 s3 H3 F3 J3 le3 st3 z => hR u3 s3 H3 F3 J3 le3 st3 ?_⟩
        have q : bestK b ((d, kd) :: rest) = bestK (d, kd) rest := by unfold bestK; rw [List.foldl_cons, if_pos hlt]
        rw [q]; exact z
      | false =>
        simp only [Bool.false_eq_true, if_false]
        refine wpAny_bind (wpAny_letGo ?_); rw [hname]
        refine wpAny_pure ⟨plainId_quiet PySem.F.plain_min_loop _, min_loop LK hr hu hh lI lS ne hf hc hl rv hcap hk hks hlen rest (j + 1) b _ e' hb
          ⟨H2, F2, J2, st2, le.trans le2, nI2, nS2, it2, vb, kb, c, hS2, rvb2, wb, rb, RepV.mono (gv X ca) le2 _ _ rbr⟩ fun u3 s3 H3 F3 J3 le3 st3 z => hR u3 s3 H3 F3 J3 le3 st3 ?_⟩
        have q : bestK b ((d, kd) :: rest) = bestK b rest := by unfold bestK; rw [List.foldl_cons, if_neg (by rw [hlt]; simp)]
        rw [q]; exact z
end
end PF

set_option Elab.async false
set_option linter.all false
set_option maxRecDepth 100000
set_option maxHeartbeats 2000000
namespace PF
open PySem PySem.Spec PyProof.Rows L2 LamX NdefX
section
variable {X : Cx} {ca : Ca} {k : Nat} {mk : Addr → NF} {be : Expr} {x : Str} {fr : List Str} {js : List Nat} {fb : M O} {pins : List (Addr × Obj)} {σ : L2.St} {H F0 Gx : Hp} {ρ : Sls} {l f c' : Addr} {vs : List V} {ds : List D} {ws : List D} {s : Shared}
theorem min_run (LK : LamK X ca k mk be x fr js fb) (hr : Room (k + 2) X.A) (hu : X.A.units + 65 < cLine) (hh : X.A.handled = none) (hf : F0 f = some (LamO f (mk c') be)) (hc : F0 c' = some (CodeO c' (mk c').qual))
    (hl : F0 l = some (.lst vs)) (rv : RepVs (gv X ca) F0 ds vs) (hcap : capS ρ js = some ws) {ks : List D} (hk : ∀ (j : Nat) (d kd : D), ds[j]? = some d → ks[j]? = some kd → ∃ ρ2, fb (some (.val d) :: ws.map fun w => some (.val w)) = some (.ok (.val kd), ρ2)) (hks : keysOk ks = true) (hlen : ks.length = ds.length)
    (J : Inv X pins σ H s) (st : StG (gv X ca) H F0 Gx σ ρ []) {p : D × D} {rest : List (D × D)} (hz : ds.zip ks = p :: rest) {Q : Value → Shared → Prop} {E : Value → Shared → Prop}
    (hQ : ∀ u s2 H2 F2, Inv X pins σ H2 s2 → Le F0 F2 → StG (gv X ca) H2 F2 Gx σ ρ [] → (∃ w, RelV w u ∧ RepV (gv X ca) F2 (bestK p rest).1 w) → Q u s2) :
    wpAny (model X.prog X.w) X.A (call (.builtin "min") [.ref l] [(PySem.Str.ofString "key", .ref f)]) Q E s := by
  have hname : (toString "min" ++ toString ".loop" : String) = "min.loop" := by decide
  obtain ⟨its, hv, pl, _⟩ := J.list (SqL.of (st.le _ _ hl))
  refine PyProof.Rows.kmk_tree PySem.F.kind_min PySem.F.plain_min PySem.F.entry_min (PyProof.Rows.kmk_min_key _ _) ?_
  show wpAny _ X.A.in1 (Builtin.Builtins.bindParams "min" ["key", "default"] 0 ⟨[], [(PySem.Str.ofString "key", .ref f)]⟩ >>= _) _ _ s
  refine wpAny_bind (wpAny_of_eq (a := [some (.ref f), none]) rfl ?_); refine wpAny_bind (wpAny_pure ?_)
  refine wpAny_bind (wpAny_pyIter_list (plain_list pl) ?_); refine wpAny_bind (wpAny_newObj_type ?_); rw [hname]
  obtain ⟨s1, hs1⟩ : ∃ s1 : Shared, s1 = { s with heap := s.heap.push { cls := .type "list_iterator", data := .fields #[.ref l, .int 0 0] } } := ⟨_, rfl⟩
  rw [← hs1]
  have z1 : s1.heap.objs.size = s.heap.objs.size + 1 := by rw [hs1]; exact Heap.size_push ..
  obtain ⟨s2, hs2⟩ : ∃ s2 : Shared, s2 = { s1 with heap := s1.heap.push { cls := .type "list", data := .seq #[] 0 }, toks := s1.toks } := ⟨_, rfl⟩
  have J1 : Inv X pins σ H s1 := by rw [hs1]; exact J.kept (t' := s.toks) fun b o z => Heap.get?_push_of_some _ z
  have J2 : Inv X pins σ H s2 := by rw [hs2]; exact J1.kept (t' := s1.toks) fun b o z => Heap.get?_push_of_some _ z
  have fI := J.fpOk (Nat.le_refl _) (J.hok.fresh (Nat.le_refl _))
  have fS := J1.fpOk (Nat.le_refl _) (J1.hok.fresh (Nat.le_refl _))
  have ne : s.heap.objs.size ≠ s1.heap.objs.size := by omega
  have gI : s2.heap.get? s.heap.objs.size = some { cls := .type "list_iterator", data := .fields #[.ref l, .int 0 0] } := by
    rw [hs2, hs1]; exact Heap.get?_push_of_some _ (Heap.get?_push_size _ rfl)
  have gS : s2.heap.get? s1.heap.objs.size = some { cls := .type "list", dict := none, data := .seq #[] 0, slots := #[] } := by
    rw [hs2]; exact Heap.get?_push_size _ rfl
  have it : s2.heap.IsListIter s.heap.objs.size l 0 := ⟨_, gI, rfl, rfl⟩
  obtain ⟨d, kd⟩ := p
  have hz0 : (ds.zip ks)[0]? = some (d, kd) := by rw [hz]; rfl
  obtain ⟨hd, hkd⟩ := List.getElem?_zip_eq_some.mp hz0
  have e' : (ds.zip ks).drop 1 = rest := by rw [hz]; rfl
  refine wpAny_pure ⟨plainId_quiet PySem.F.plain_min_loop _, ?_⟩
  show codeAny _ X.A (.builtin "min.loop" ⟨[.ref s.heap.objs.size, .ref f, .ref s1.heap.objs.size], []⟩) _ { s1 with heap := s1.heap.push { cls := .type "list", data := .seq #[] 0 }, toks := s1.toks }
  rw [← hs2]
  refine codeAny_builtin PySem.F.entry_min_loop ?_; rw [Around.under_plainId PySem.F.plain_min_loop _]
  show wpAny _ X.A.in1 (seqItems? (.ref s1.heap.objs.size) >>= _) _ _ s2
  refine wpAny_bind (wpAny_seqItems gS rfl ?_); show wpAny _ X.A.in1 (tryCatch (pyNext (.ref s.heap.objs.size)) _ >>= _) _ _ s2
  refine wpAny_bind (wpAny_tryCatch (min_next hl rv fI.2 ne J2 st (Le.refl F0) fI.1 it gS hd fun u s3 J3 it3 hS3 hu3 => ?_))
  show wpAny _ X.A.in1 (tryCatch (holding [u] (call (.ref f) [u])) _ >>= _) _ _ _
  refine wpAny_bind (wpAny_tryCatch (wpAny_holding (min_key LK hr fI.2 fS.2 hf hc hcap J3 st (Le.refl F0) fI.1 fS.1 it3 hS3 (fun v q => by cases q) hu3 (hk 0 d kd hd hkd) fun ku s4 H4 F4 J4 st4 le4 nI4 nS4 it4 hS4 rk4 => ?_)))
  show wpAny _ X.A.in1 (updateSeq s1.heap.objs.size (fun _ => #[u, ku]) >>= _) _ _ _
  refine wpAny_bind ?_; refine wpAny_updateSeq hS4 rfl ?_; rw [hname]
  obtain ⟨w, q1, q2⟩ := hu3
  refine wpAny_pure ⟨plainId_quiet PySem.F.plain_min_loop _, min_loop LK hr hu hh fI.2 fS.2 ne hf hc hl rv hcap hk hks hlen rest 1 (d, kd) _ e' (List.mem_of_getElem? hkd)
    ⟨H4, F4, min_wr (xs := #[]) (n := 0) (F := F4) (oS := seqObj "list" #[] 0) J4 fS.2 nS4, st4, le4, nI4, nS4, iter_keep it4 fun o z => (Heap.get?_update_other _ _ (Ne.symm ne)).trans z, u, ku, _, Heap.get?_update_self _ hS4 rfl, ⟨w, q1, RepV.mono (gv X ca) le4 _ _ q2⟩, rk4⟩ fun u3 s3 H3 F3 J3 le3 st3 z => hQ u3 s3 H3 F3 J3 le3 st3 z⟩
end
end PF

set_option Elab.async false
set_option linter.all false
set_option maxRecDepth 100000
set_option maxHeartbeats 2000000
namespace PF
open PySem PySem.Spec PyProof.Rows L2 LamX NdefX
theorem valsO_fzs : ∀ {os : List O} {ds : List D}, valsO os = some ds → fzs os = ds
  | [], ds, e => by rw [valsO] at e; cases e; rfl
  | .val d :: os, ds, e => by
    rw [valsO] at e
    obtain ⟨es, e1, rfl⟩ := Option.map_eq_some_iff.mp e
    rw [fzs, fz, valsO_fzs e1]
  | .lst _ :: os, ds, e => by simp [valsO] at e
  | .dct _ _ _ :: os, ds, e => by simp [valsO] at e
  | .ins _ _ _ :: os, ds, e => by simp [valsO] at e
theorem fz_dsL {o : O} {ds : List D} (e : o.dsL = some ds) : fz o = .lst ds := by
  cases o with
  | val d =>
    cases d with
    | lst es => rw [O.dsL] at e; cases e; rfl
    | _ => simp [O.dsL] at e
  | lst os => rw [O.dsL] at e; rw [fz, valsO_fzs e]
  | _ => simp [O.dsL] at e
theorem lst_ok {g : Gv} {H F Gx : Hp} {σ : L2.St} {ρ : Sls} {o : O} {v : V} {ds : List D} (st : StG g H F Gx σ ρ [(v, o)]) (e : o.dsL = some ds) : ∃ F2, Le F F2 ∧ StG g H F2 Gx σ ρ [] ∧ ∃ a vs, v = .ref a ∧ F2 a = some (.lst vs) ∧ RepVs g F2 ds vs := by
  obtain ⟨F2, le, st2⟩ := st.freeze
  have rv := st2.gd.val (B := slL σ ρ)
  rw [fz_dsL e, RepV] at rv
  exact ⟨F2, le, st2.drop1, rv⟩
/-! ### min(xs, key=lambda ..): the semantics -/
def keysM (fb : M O) (ws : List D) : List D → Option (List D)
  | [] => some []
  | d :: ds => match fb (some (.val d) :: ws.map fun w => some (.val w)) with
    | some (.ok (.val k), _) => (keysM fb ws ds).map (k :: ·)
    | _ => none
def minK (fb : M O) (ws : List D) (o : O) : Option O := match o.dsL with
  | some ds => (match keysM fb ws ds with
    | some ks => if keysOk ks = true then (match ds.zip ks with
      | p :: rest => some (.val (bestK p rest).1)
      | [] => none) else none
    | none => none)
  | none => none
def capM (js : List Nat) : M (List D) := fun ρ => match capS ρ js with
  | some ws => some (.ok ws, ρ)
  | none => none
def minKF (fa : M O) (js : List Nat) (fb : M O) : M O := fa.bind fun o => (capM js).bind fun ws => M.of (minK fb ws o)
theorem keysM_len {fb : M O} {ws : List D} : ∀ {ds ks : List D}, keysM fb ws ds = some ks → ks.length = ds.length
  | [], ks, e => by rw [keysM] at e; cases e; rfl
  | d :: ds, ks, e => by
    rw [keysM] at e
    split at e
    · obtain ⟨es, e1, rfl⟩ := Option.map_eq_some_iff.mp e
      rw [List.length_cons, List.length_cons, keysM_len e1]
    · cases e
theorem keysM_at {fb : M O} {ws : List D} : ∀ {ds ks : List D}, keysM fb ws ds = some ks → ∀ (j : Nat) (d kd : D), ds[j]? = some d → ks[j]? = some kd → ∃ ρ2, fb (some (.val d) :: ws.map fun w => some (.val w)) = some (.ok (.val kd), ρ2)
  | [], ks, e, j, d, kd, h, _ => by simp at h
  | a :: ds, ks, e, j, d, kd, h, h2 => by
    rw [keysM] at e
    split at e
    · rename_i k ρ2 hk
      obtain ⟨es, e1, rfl⟩ := Option.map_eq_some_iff.mp e
      cases j with
      | zero =>
        simp at h h2
        subst h h2
        exact ⟨ρ2, hk⟩
      | succ j => exact keysM_at e1 j d kd (by simpa using h) (by simpa using h2)
    · cases e
section
variable {X : Cx} {ca : Ca} {k : Nat} {mk : Addr → NF} {be : Expr} {x : Str} {fr : List Str} {js : List Nat} {fb fa : M O} {W : WX} {ea : Expr} {p pos lpos kpos : Pos} {params : Arguments} {scope : Scope} {c P : Addr}
/-- a built-in called with keywords; its rule may look at the slots -/
theorem pe_callBKs {id : String} {x : Str} {e : Expr} {es : List Expr} {kws : List Keyword} {ks : List Str} {t tk : TA} {r : L2.St → List V → List V → Hp → VK → Prop}
    (hc : ∀ (pins : List (Addr × Obj)) (s : Shared) (σ : L2.St) (H : Hp) (xs zs : List V) (us ws : List Value) (Q : VK), Inv X pins σ H s → Vals xs us → Vals zs ws → r σ xs zs H Q → wpAny (model X.prog X.w) X.A (call (.builtin id) us (ks.zip ws)) (EP X pins σ Q) X.xe s)
    (hg : Gl X x) (hm : X.mg x = none) (hv : bootBuiltins x = some (.builtin id)) (ha : PA X (e :: es) t) (hk : PK X kws tk) (hn : x ≠ "__name__" := by decide) (hdb : (x == ("__debug__" : Str)) = false := by decide)
    (he : backTo pos (starEach (e :: es) X.env) = (false, eval e X.env) :: backTo pos (starEach es X.env) := by rfl) (hpl : (backTo pos (starEach (e :: es) X.env)).any (·.1) = false := by rfl)
    (hall : (backToKw pos (keywordEach kws X.env)).all (·.1.isSome) = true := by rfl) (hnone : (backToKw pos (keywordEach kws X.env)).any (·.1.isNone) = false := by rfl) (hks : (backToKw pos (keywordEach kws X.env)).filterMap (·.1) = ks := by rfl) :
    PE X (.Call (.Name x p) (e :: es) kws pos) (fun σ H Q => t σ H fun vs H1 => tk σ H1 fun zs H2 => r σ vs zs H2 Q) := by
  refine ⟨fun pins s σ H Q I h => ?_⟩
  refine wpAny_Call_Name_kw (ld_blt I hg hm hv ?_ hn hdb)
  refine PyProof.Rows.callWith_kw (thn (ha.run pos pins s σ H _ I h) fun us s1 ⟨vs, H1, I1, r1, q1⟩ => thn (hk.run pos pins s1 σ H1 _ I1 q1) fun ws s2 ⟨zs, H2, I2, r2, q2⟩ => ?_) he hpl hall hnone
  rw [hks]; exact hc pins s2 σ H2 vs zs us ws Q I2 r1 r2 q2
theorem e_minkey (LK : LamK X ca k (fun c' => (⟨"<lambda>", X.env.qual ++ "<lambda>", params, [], scope, cloFrom X.env.cells scope.names [], c'⟩ : NF)) be x fr js fb) (TB : TabB X.base X.mg c P) (hcode : X.env.code = .ref c) (hp : (P, X.env.qual ++ "<lambda>") ∈ ca.tb) (hu1 : ∀ p' ∈ ca.tb, p'.1 = P → p' = (P, X.env.qual ++ "<lambda>"))
    (hdef : defaultsOf params X.env = ([], [])) (hfree : X.Ok → ∀ y ∈ scope.names, y.2 = .free → ∃ c, X.env.cells.lookup y.1 = some c)
    (hr : Room (k + 2) X.A) (hu : X.A.units + 65 < cLine) (hh : X.calm = true) (hg : Gl X "min") (hm : X.mg "min" = none) (ha : PE X ea (T (gv X ca) W fa))
    (hs : starEach [ea] X.env = (false, eval ea X.env) :: starEach [] X.env := by rfl) (he : backTo pos (starEach [ea] X.env) = (false, eval ea X.env) :: backTo pos (starEach [] X.env) := by rfl) (hpl : (backTo pos (starEach [ea] X.env)).any (·.1) = false := by rfl)
    (hks : (backToKw pos (keywordEach [⟨some (PySem.Str.ofString "key"), .Lambda params be scope lpos, kpos⟩] X.env)).filterMap (·.1) = [PySem.Str.ofString "key"] := by rfl)
    (hall : (backToKw pos (keywordEach [⟨some (PySem.Str.ofString "key"), .Lambda params be scope lpos, kpos⟩] X.env)).all (·.1.isSome) = true := by rfl) (hnone : (backToKw pos (keywordEach [⟨some (PySem.Str.ofString "key"), .Lambda params be scope lpos, kpos⟩] X.env)).any (·.1.isNone) = false := by rfl) :
    PE X (.Call (.Name "min" p) [ea] [⟨some (PySem.Str.ofString "key"), .Lambda params be scope lpos, kpos⟩] pos) (T (gv X ca) W (minKF fa js fb)) := by
  refine PE.imp (pe_callBKs (id := "min") (ks := [PySem.Str.ofString "key"]) (r := fun σ xs zs H Q => ∃ (F0 Gx : Hp) (ρ : Sls) (l f c' : Addr) (vs : List V) (ds ws ks : List D) (q : D × D) (rest : List (D × D)), xs = [.ref l] ∧ zs = [.ref f] ∧ StG (gv X ca) H F0 Gx σ ρ [] ∧ F0 f = some (LamO f ((fun c' => (⟨"<lambda>", X.env.qual ++ "<lambda>", params, [], scope, cloFrom X.env.cells scope.names [], c'⟩ : NF)) c') be) ∧ F0 c' = some (CodeO c' ((fun c' => (⟨"<lambda>", X.env.qual ++ "<lambda>", params, [], scope, cloFrom X.env.cells scope.names [], c'⟩ : NF)) c').qual) ∧
      F0 l = some (.lst vs) ∧ RepVs (gv X ca) F0 ds vs ∧ capS ρ js = some ws ∧ keysM fb ws ds = some ks ∧ keysOk ks = true ∧ ds.zip ks = q :: rest ∧ ∀ v H2 F2, Le F0 F2 → StG (gv X ca) H2 F2 Gx σ ρ [] → RepV (gv X ca) F2 (bestK q rest).1 v → Q v H2) ?_ hg hm rfl (pa_cons ha pa_nil hs) (pk_cons (pe_lam TB hcode hdef hfree) pk_nil) (by decide) (by decide) he hpl hall hnone hks) ?_
  · rintro pins s σ H xs zs us ws0 Q I rx rz ⟨F0, Gx, ρ, l, f, c', vs, ds, ws, ks, q, rest, rfl, rfl, st, h1, h2, h3, h4, h5, h6, h7, h8, hQ⟩
    cases rx with
    | cons rx1 rx2 =>
      cases rx2
      cases rz with
      | cons rz1 rz2 =>
        cases rz2
        cases rx1; cases rz1
        refine min_run LK hr hu (I.ok.hd hh) h1 h2 h3 h4 h5 (keysM_at h6) h7 (keysM_len h6) I st h8 fun u s2 H2 F2 J2 le2 st2 ⟨w, q1, q2⟩ => ?_
        exact ⟨w, H2, J2, q1, hQ w H2 F2 le2 st2 q2⟩
  · rintro σ H Q ⟨F, Gx, ρ, st, r⟩
    refine ⟨F, Gx, ρ, st, r.bind.mono fun o H1 F1 ρ1 le r1 v st1 => ?_⟩
    have r2 := r1.bind
    unfold Rn capM at r2
    cases hcap : capS ρ1 js with
    | none => rw [hcap] at r2; exact r2.elim
    | some ws =>
      rw [hcap] at r2
      have r3 : Rn (gv X ca) W (M.of (minK fb ws o)) σ H1 F1 Gx ρ1 (fun o H' F' ρ' => ∀ v, StG (gv X ca) H' F' Gx σ ρ' [(v, o)] → Q v H') := r2 H1 F1 (Le.refl _)
      obtain ⟨res, e, hq⟩ := r3.of
      unfold minK at e
      split at e
      · rename_i ds hds
        split at e
        · rename_i ks hks2
          split at e
          · rename_i hok
            split at e
            · rename_i q rest hz
              cases e
              obtain ⟨F2, le2, st2, l, vs, rfl, hl, rv⟩ := lst_ok st1 hds
              refine ⟨st2.tabs hp, fun f c' H3 hs hf => ?_⟩
              obtain ⟨F3, le3, a1, a2, st3⟩ := st2.lam (p := (P, X.env.qual ++ "<lambda>")) hp hu1 (u := LamO f ((fun c' => (⟨"<lambda>", X.env.qual ++ "<lambda>", params, [], scope, cloFrom X.env.cells scope.names [], c'⟩ : NF)) c') be) hs hf
              exact ⟨F3, Gx, ρ1, l, f, c', vs, ds, ws, ks, q, rest, rfl, rfl, st3, a1, a2, le3 _ _ hl, RepVs.mono (gv X ca) le3 _ _ rv, hcap, hks2, hok, hz, fun v2 H4 F4 le4 st4 rv4 => hq H4 F4 ((le2.trans le3).trans le4) v2 (st4.ofVal rv4)⟩
            · cases e
          · cases e
        · cases e
      · cases e
end
end PF

set_option Elab.async false
set_option linter.all false
set_option maxRecDepth 100000
set_option maxHeartbeats 2000000
namespace PF
open PySem PySem.Spec PyProof.Rows L2
/-! ### all, any of a list of truths -/
def blsD : List D → Option (List Bool)
  | [] => some []
  | .bl b :: ds => (blsD ds).map (b :: ·)
  | _ :: _ => none
theorem blsD_ok {g : Gv} {F : Hp} : ∀ {ds : List D} {vs : List V} {bs : List Bool}, RepVs g F ds vs → blsD ds = some bs → vs = bs.map V.bl
  | [], vs, bs, r, e => by
    rw [blsD] at e; cases e
    rw [RepVs] at r; exact r
  | .bl b :: ds, vs, bs, r, e => by
    rw [blsD] at e
    obtain ⟨es, e1, rfl⟩ := Option.map_eq_some_iff.mp e
    rw [RepVs] at r
    obtain ⟨v, w, rfl, r1, r2⟩ := r
    rw [RepV] at r1
    rw [r1, blsD_ok r2 e1, List.map_cons]
  | .non :: _, _, _, _, e => by simp [blsD] at e
  | .int _ :: _, _, _, _, e => by simp [blsD] at e
  | .str _ :: _, _, _, _, e => by simp [blsD] at e
  | .tup _ :: _, _, _, _, e => by simp [blsD] at e
  | .lst _ :: _, _, _, _, e => by simp [blsD] at e
  | .dct _ _ _ :: _, _, _, _, e => by simp [blsD] at e
  | .ins _ _ _ :: _, _, _, _, e => by simp [blsD] at e
  | .scr _ :: _, _, _, _, e => by simp [blsD] at e
  | .ty _ :: _, _, _, _, e => by simp [blsD] at e
  | .exn _ _ _ :: _, _, _, _, e => by simp [blsD] at e
def allF : List O → Option O
  | [o] => match o.dsL.bind blsD with
    | some bs => some (.val (.bl (bs.all id)))
    | none => none
  | _ => none
def anyF : List O → Option O
  | [o] => match o.dsL.bind blsD with
    | some bs => some (.val (.bl (bs.any id)))
    | none => none
  | _ => none
section
variable {X : Cx} {ca : Ca}
theorem cb_all (hc : X.calm = true) : CallR X (.builtin "all") (rF (gv X ca) allF) := by
  intro pins s σ H xs us Q I rv ⟨F, Gx, σ', ρ, os, res, st, vw, e, yd⟩
  unfold allF at e
  split at e
  · split at e
    · rename_i bs hb
      cases e
      obtain ⟨ds, h1, h2⟩ := Option.bind_eq_some_iff.mp hb
      obtain ⟨v, S, rfl, r⟩ := view1 vw
      obtain ⟨a, vs, rfl, q, r⟩ := dsL_ok st.le r h1
      rw [blsD_ok r h2] at q
      exact cr_all hc pins s σ H _ us Q I rv ⟨a, bs, rfl, SqL.of q, yd.val st repB⟩
    · cases e
  · cases e
theorem cb_any (hc : X.calm = true) : CallR X (.builtin "any") (rF (gv X ca) anyF) := by
  intro pins s σ H xs us Q I rv ⟨F, Gx, σ', ρ, os, res, st, vw, e, yd⟩
  unfold anyF at e
  split at e
  · split at e
    · rename_i bs hb
      cases e
      obtain ⟨ds, h1, h2⟩ := Option.bind_eq_some_iff.mp hb
      obtain ⟨v, S, rfl, r⟩ := view1 vw
      obtain ⟨a, vs, rfl, q, r⟩ := dsL_ok st.le r h1
      rw [blsD_ok r h2] at q
      exact cr_any hc pins s σ H _ us Q I rv ⟨a, bs, rfl, SqL.of q, yd.val st repB⟩
    · cases e
  · cases e
end
/-! ### sorted(NAME), NAME a dict of the top with text keys -/
theorem strs_rep {g : Gv} {F : Hp} : ∀ ks : List Str, RepVs g F (ks.map D.str) (ks.map V.str)
  | [] => by rw [List.map_nil, RepVs]; rfl
  | k :: ks => by rw [List.map_cons, List.map_cons, RepVs]; exact ⟨_, _, rfl, repS, strs_rep ks⟩
theorem keyS_is {e : DictEntry} {k : Str} (h : keyS e = some k) : ∃ t, e.key = Value.str k t := by
  unfold keyS at h
  split at h
  · rename_i z t q
    cases h
    exact ⟨t, q⟩
  · cases h
section
variable {X : Cx} {ca : Ca} {W : WX} {x : Str} {p px pos : Pos}
def rSortK (a : Addr) (ks : List Str) : List V → Hp → VK → Prop := fun vs H Q => vs = [.ref a] ∧ ∃ F Gx σ ρ, StG ⟨X.prog, X.w, X.K, ca⟩ H F Gx σ ρ [] ∧ Yd ⟨X.prog, X.w, X.K, ca⟩ H F Gx σ ρ (.lst ((srtD (ks.map D.str)).map O.val)) Q
theorem cb_sortK {a : Addr} {es : Array DictEntry} {n : Nat} {ks : List Str} (kd : KDict X.K X.w a es n) (hk : es.toList.map keyS = ks.map some) (hs : srtOk (ks.map D.str) = true) (hc : X.calm = true) (hu : X.A.units + 65 < cLine) : CallR X (.builtin "sorted") (rSortK (X := X) (ca := ca) a ks) := by
  rintro pins s σ H xs us Q I rv ⟨rfl, F, Gx, σ', ρ, st, yd⟩
  obtain ⟨u, rfl, ru⟩ := vals1 rv
  cases ru
  have so := srtOk_is hs
  have ho : s.heap.get? a = some ⟨.type "dict", none, .dict es n, #[]⟩ := I.kIn _ _ kd.at_
  have hlen : es.size = ks.length := by have := congrArg List.length hk; simpa using this
  have hlim := so.len
  have hl2 : (ks.map D.str).length = ks.length := List.length_map _
  refine Calls.call_function_entry PyProof.Rows.kind_sorted PyProof.Rows.plain_sorted PyProof.Rows.entry_sorted (PyProof.Rows.args_sorted1 _) ?_
  unfold Builtin.«sorted»
  refine wpAny_bind (m := checkCount "sorted" 1 1 _) (wpAny_pure ?_)
  refine wpAny_bind (PySem.W.kdu_collect (A := X.A.in1) (kdl_raw kd.low (o := ⟨.type "dict", none, .dict es n, #[]⟩) ⟨rfl, rfl, rfl⟩ rfl) (I.ok.hd hc) ho (by have := lim_le so.len; omega) fun h' tk acc kp it => ?_)
  have vl : Vals (ks.map V.str) acc.toList := by
    have hl : acc.toList.length = ks.length := by rw [Array.length_toList, it.1]; exact hlen
    have key : ∀ (l : List Value) (ks : List Str), l.length = ks.length → (∀ (j : Nat) (v : Value) (k : Str), l[j]? = some v → ks[j]? = some k → ∃ t, v = Value.str k t) → Vals (ks.map V.str) l := by
      intro l
      induction l with
      | nil => intro ks h _; cases ks with
        | nil => exact .nil
        | cons k ks => simp at h
      | cons v l ih => intro ks h h2; cases ks with
        | nil => simp at h
        | cons k ks =>
          obtain ⟨t, rfl⟩ := h2 0 v k rfl rfl
          exact .cons ⟨t, rfl⟩ (ih ks (by simpa using h) fun j v k h3 h4 => h2 (j + 1) v k (by simpa using h3) (by simpa using h4))
    refine key acc.toList ks hl fun j v k h1 h2 => ?_
    obtain ⟨en, hen, hv⟩ := it.2 j v (by rw [← Array.getElem?_toList]; exact h1)
    have q : (es.toList.map keyS)[j]? = some (some k) := by rw [hk, List.getElem?_map, h2]; rfl
    rw [List.getElem?_map] at q
    have hen2 : es.toList[j]? = some en := by first | exact hen | (rw [Array.getElem?_toList]; exact hen)
    rw [hen2] at q
    obtain ⟨t, e⟩ := keyS_is (Option.some.inj q)
    exact ⟨t, hv.trans e⟩
  have I1 : Inv X pins σ H { s with heap := h', toks := tk } := I.kept kp
  have al : acc.toList.length = ks.length := by have := vl.length; simpa using this.symm
  have hzl : acc.toList.length ≤ sizeLine := by rw [al, ← hl2]; exact lim_le so.len
  refine wpAny_bind (wpAny_newList ?_ hzl)
  have hoL : (h'.push (seqObj "list" acc.toList.toArray 0)).get? h'.objs.size = some (seqObj "list" acc.toList.toArray 0) := Heap.get?_push_size _ rfl
  have er := each_reads (ca := ca) I1 st.le so.ok (strs_rep ks) vl
  have er2 : PySem.W.EachIs (fun u d => ∃ as, Reads (h'.push (seqObj "list" acc.toList.toArray 0)) u (toPy d) as ∧ h'.objs.size ∉ as) acc.toList (ks.map D.str) := (PySem.W.each_mem er).mono fun u d ⟨⟨as, q⟩, hd⟩ => ⟨as, PyProof.Rows.Reads.keeps (fun _ _ w => Heap.get?_push_of_some _ w) q, fun m => by
    have hm := List.mem_map_of_mem (f := toPy) hd
    exact Nat.lt_irrefl _ (reads_lt _ _ _ (so.al _ hm _ hm) q _ m)⟩
  refine wpAny_bind (wpAny_holding (PySem.W.list_sort_data (s := { s with heap := h'.push (seqObj "list" acc.toList.toArray 0), toks := tk }) (enc := toPy) hoL (each_rep (ca := ca) I1 st.le (strs_rep ks) vl) er2 so.al so.so (lim_le so.len) (fun b hb => ?_) fun out hl ei => ?_))
  · have := (okD_lay 16 b (so.ok b hb)).2
    show X.A.units + 1 + 1 + _ < _
    omega
  · obtain ⟨ws, rw', vw'⟩ := rep_each ei
    obtain ⟨ep2, he2⟩ := PyProof.Rows.sortedHeap_at (vs := acc.toList) (out := out.toArray) hoL
    have wl : ws.length ≤ sizeLine := by rw [vw'.length, hl]; exact lim_le so.len
    refine wpAny_pure ⟨_, rfl, .ref h'.objs.size, upd H h'.objs.size (.lst ws), I1.laid (t' := tk) (fun b u e => ?_) (Nat.le_refl _) (show ObjOk X.prog X.w _ _ _ (.lst ws) from ⟨wl, out, ep2, vw', he2⟩), rfl, yd.lst st rw' _ (I1.hok.fresh (Nat.le_refl _))⟩
    have hb : b < h'.objs.size := Heap.lt_size e
    rw [PyProof.Rows.sortedHeap_old (Nat.ne_of_lt hb) (by rw [size_push']; exact Nat.lt_succ_of_lt hb)]
    exact Heap.get?_push_of_some _ e
theorem e_gsort {ks : List Str} (h : ∃ a es n, X.mg x = some (.ref a) ∧ KDict X.K X.w a es n ∧ es.toList.map keyS = ks.map some) (hs : srtOk (ks.map D.str) = true) (hc : X.calm = true) (hu : X.A.units + 65 < cLine) (hg : Gl X "sorted") (hm : X.mg "sorted" = none) (hgx : Gl X x := by rfl) (hdx : (x == ("__debug__" : Str)) = false := by decide)
    (he : starEach [.Name x px] X.env = (false, eval (.Name x px) X.env) :: starEach [] X.env := by rfl) (hpl : (backTo pos (starEach [] X.env)).any (·.1) = false := by rfl) :
    PE X (.Call (.Name "sorted" p) [.Name x px] [] pos) (T (gv X ca) W (M.pure (.lst ((srtD (ks.map D.str)).map O.val)))) := by
  obtain ⟨a, es, n, h1, kd, hk⟩ := h
  refine PE.imp (pe_callB (cb_sortK (ca := ca) kd hk hs hc hu) hg hm rfl (pa_cons (pe_glob (v := .ref a) hgx h1 rfl hdx) pa_nil he) (by decide) (by decide) he hpl) fun σ H Q ⟨F, Gx, ρ, st, r⟩ => ?_
  exact ⟨rfl, F, Gx, σ, ρ, st, fun v H2 F2 le2 st2 => r.pure H2 F2 le2 v st2⟩
end
/-! ### a def whose own code object is asked -/
section
variable {P : Program} {w : World} {K : PySem.W.Frag} {mg : Str → Option Value} {base : Heap}
theorem d_okC {x qual : Str} {params : Arguments} {body : List Stmt} {scope : Scope} {f : Addr} {fd : FuncData} {N ps : List Str} {k : Nat} {ca : Ca} {ms : List Bool} {b : M Out} (Fu : FunD K x qual params body scope [] [] f fd) (S : FnScope N ps scope) (hl : ms.length = ps.length) (hN : ms.length ≤ N.length)
    (hbody : ∀ (A : Around) (outer : List Env) (s : Shared) (H : Hp) (E : XK), Room k (A.deeper (envOfC qual scope s.heap.objs.size f fd.code)) →
      PSs (cxOf (L2.CX P w) P w K mg base N qual scope f fd.code A outer s H E) body (Ts ⟨P, w, K, ca⟩ (fun c d _ H => E c d H) (pinOf 0 ms) b)) :
    FnOk P w K mg base (L2.CX P w) (k + 1) f fd ps (spOf ⟨P, w, K, ca⟩ ms (defM N.length b)) := by
  obtain ⟨oc, od, dV, kV, doc, pm, an, cdv, ct, osl, rfl, lk, hcd, _, _⟩ := Fu.ex
  refine fn_of lk hcd S (fun vs H Q E h => h.1.trans hl) fun A outer s H vs Q E hr h => ⟨_, hbody A outer s H E hr, d_end hN h⟩
end
/-- a def's code object has a table of its own, in which its lambdas' code objects stand -/
structure TbF (ca : Ca) (base : Heap) (mg : Str → Option Value) (cd : Value) (q : Str) : Prop where
  ex : ∃ c P, cd = .ref c ∧ LamX.TabB base mg c P ∧ (P, q) ∈ ca.tb ∧ ∀ p ∈ ca.tb, p.1 = P → p = (P, q)
end PF

set_option Elab.async false
set_option linter.all false
set_option maxRecDepth 100000
set_option maxHeartbeats 2000000
namespace PF
open PySem PySem.Spec PyProof.Rows L2
/-! ### a, b = x, y by way of a tuple -/
section
variable {g : Gv} {H F Gx : Hp} {σ : L2.St} {ρ : Sls} {L : List (V × O)}
/-- a new thing that nobody has any more -/
theorem Good.junk {B : List (V × O)} {p : Addr} {u : HO} (h : Good g H F Gx B) (hp : H p = none) : Good g (upd H p u) F Gx B := by
  obtain ⟨S, hT, hF, hG, hFG, hS, hL⟩ := h.ex
  have nS : ∀ a, S a → a ≠ p := fun a h e => by
    subst e
    obtain ⟨_, _, o, ho⟩ := hS a h
    rw [ho] at hp; cases hp
  refine ⟨S, (hT.fresh hp).sub fun a h => .inr h, fun a o e => ?_, fun a o e => ?_, hFG, fun a h => ?_, RepL.frame g (Le.refl F) B S S (fun _ h => h) (fun a h => upd_ne (nS a h)) hL⟩
  · rw [upd_ne (fun q => by subst q; rw [hF _ _ e] at hp; cases hp)]; exact hF a o e
  · rw [upd_ne (fun q => by subst q; rw [hG _ _ e] at hp; cases hp)]; exact hG a o e
  · rw [upd_ne (nS a h)]; exact hS a h
end
section
variable {W : WX} {pn : List Nat} {X : Cx} {ca : Ca} {a b c : Expr} {fs : M (List O)} {pos pt px py pz pt2 : Pos} {x y z : Str} {i j k kt k2 : Nat}
theorem s_tup2 (hc : X.calm = true) (hN : X.N.Nodup) (hi : X.N[i]? = some x) (hj : X.N[j]? = some y) (hpi : i ∉ pn) (hpj : j ∉ pn) (hx : Loc X.env.scope x) (hy : Loc X.env.scope y) (ha : PA X [a, b] (TL (gv X ca) W fs))
    (fx : X.fn x = true ∨ X.env.scope.names.lookup x = some .local := by first | exact .inl rfl | exact .inr rfl | assumption) (fy : X.fn y = true ∨ X.env.scope.names.lookup y = some .local := by first | exact .inl rfl | exact .inr rfl | assumption)
    (hs : swapsWithSole [.Tuple [.Name x px, .Name y py] kt pt] (.Tuple [a, b] k2 pt2) pos.line X.env = pure false := by rfl) (hw : swappedStores [.Tuple [.Name x px, .Name y py] kt pt] (.Tuple [a, b] k2 pt2) X.env = pure none := by rfl) :
    PS X (.Assign [.Tuple [.Name x px, .Name y py] kt pt] (.Tuple [a, b] k2 pt2) pos) (Ts (gv X ca) W pn (par2 i j fs)) :=
  PS.imp (ps_asg (pe_tup ha) (pg_tup hc (pgs_cons (pg_name hN hi hx fx) (pgs_cons (pg_name hN hj hy fy) pgs_nil))) hs hw) fun D σ H ⟨F, Gx, ρ, st, r⟩ => ⟨F, Gx, ρ, st, r.expr.mono fun os H' F' ρ' le r1 vs hl st' => by
    split at r1
    · obtain ⟨v, w, rfl⟩ : ∃ v w, vs = [v, w] := by
        match vs, hl with
        | [v, w], _ => exact ⟨v, w, rfl⟩
      refine ⟨by show 2 ≤ sizeLine; decide, fun p hp => ⟨p, [v, w], rfl, .inl (.inl upd_same), rfl, v, [w], rfl, w, [], rfl, rfl, ?_⟩⟩
      have st2 : StG (gv X ca) (upd H' p (.tup [v, w])) F' Gx σ ρ' ((v, _) :: [(w, _)]) := ⟨st'.wf, st'.len, Good.junk st'.gd hp⟩
      obtain ⟨ρ1, st3, r2⟩ := Ts_puts hpi st2 r1
      obtain ⟨ρ2, st4, r3⟩ := Ts_puts hpj st3 r2
      exact r3.pure _ F' _ (Le.refl _) (Pin.refl _) st4
    · obtain ⟨_, _, e⟩ := r1.run; cases e⟩
end
end PF

set_option Elab.async false
set_option linter.all false
set_option maxRecDepth 100000
set_option maxHeartbeats 1000000
namespace PF
open PySem PySem.Spec PyProof.Rows L2
/-! ### while, with a bound -/
def whileN (fc : M Bool) (fb : M Out) : Nat → M Out
  | 0 => M.stuck
  | n + 1 => fc.bind fun b => if b = true then fb.bind fun out => match out with
      | .bk => M.pure .nx
      | .rt o => M.pure (.rt o)
      | _ => whileN fc fb n
    else M.pure .nx
section
variable {g : Gv} {W : WX} {pn : List Nat} {fc : M Bool} {fb : M Out} {X : Cx} {c : Expr} {body : List Stmt} {pos : Pos}
theorem s_while (n : Nat) (hp : PassesOwn (model X.prog X.w) X.A X.env X.xe) (hc : PT X c (Tt g W fc)) (hb : PSs X body (Ts g W pn fb)) : PS X (.While c body [] pos) (Ts g W pn (whileN fc fb n)) :=
  PS.imp (ps_while hp hc hb) fun D σ H ⟨F, Gx, ρ, st, r⟩ => by
    refine ⟨fun m σ1 H1 => ∃ F1 ρ1, StG g H1 F1 Gx σ1 ρ1 [] ∧ Rs g W pn (whileN fc fb m) σ1 F1 Gx ρ1 (EndR g Gx D), ⟨n, F, ρ, st, r⟩, fun m σ1 H1 ⟨F1, ρ1, st1, r1⟩ => ?_⟩
    cases m with
    | zero => obtain ⟨_, _, e⟩ := r1.run; cases e
    | succ m =>
      refine ⟨F1, Gx, ρ1, st1, r1.expr.mono fun b H' F' ρ' le r2 st' => ?_⟩
      cases b with
      | false => exact r2.pure H' F' σ1 (Le.refl _) (Pin.refl _) st'
      | true =>
        rw [if_pos rfl] at r2
        refine ⟨fun σ' H' => ∃ F' ρ', StG g H' F' Gx σ' ρ' [] ∧ Rs g W pn (whileN fc fb m) σ' F' Gx ρ' (EndR g Gx D), fun σ' H' ⟨F', ρ', b, c⟩ => ⟨m, Nat.lt_succ_self m, F', ρ', b, c⟩, F', Gx, ρ', st', r2.bind.mono fun out H4 F4 σ4 ρ4 le4 p4 r5 => ?_⟩
        cases out with
        | nx => exact fun st4 => ⟨F4, ρ4, st4, r5⟩
        | ct => exact fun st4 => ⟨F4, ρ4, st4, r5⟩
        | bk => exact fun st4 => r5.pure H4 F4 σ4 (Le.refl _) (Pin.refl _) st4
        | rt o => exact fun v st4 => r5.pure H4 F4 σ4 (Le.refl _) (Pin.refl _) v st4
end
/-- the run of a loop by an invariant with a measure -/
theorem ev_while {fc : M Bool} {fb : M Out} {R : Out → Sls → Prop} (Iv : Nat → Sls → Prop) (hs : ∀ m ρ, Iv m ρ → Ev fc ρ fun b ρ1 => if b = true then Ev fb ρ1 fun out ρ2 => match out with
    | .bk => R .nx ρ2
    | .rt o => R (.rt o) ρ2
    | _ => ∃ m', m' < m ∧ Iv m' ρ2 else R .nx ρ1) : ∀ (n m : Nat) (ρ : Sls), m < n → Iv m ρ → Ev (whileN fc fb n) ρ R
  | 0, m, ρ, h, _ => absurd h (Nat.not_lt_zero m)
  | n + 1, m, ρ, h, i => by
    rw [whileN, ev_bind]
    refine (hs m ρ i).mono fun b ρ1 q => ?_
    cases b with
    | false => exact ev_pure.mpr q
    | true =>
      rw [if_pos rfl] at q ⊢
      rw [ev_bind]
      refine Ev.mono q fun out ρ2 q => ?_
      cases out with
      | bk => exact ev_pure.mpr q
      | rt o => exact ev_pure.mpr q
      | nx =>
        obtain ⟨m', hm, i'⟩ := q
        exact ev_while Iv hs n m' ρ2 (by omega) i'
      | ct =>
        obtain ⟨m', hm, i'⟩ := q
        exact ev_while Iv hs n m' ρ2 (by omega) i'
end PF

set_option Elab.async false
set_option linter.all false
set_option maxRecDepth 100000
set_option maxHeartbeats 1000000
namespace PF
open PySem PySem.Spec PyProof.Rows L2
/-! ### name += e, of ints -/
def addI : O → O → Option O
  | .val (.int i), .val (.int j) => some (.val (.int (i + j)))
  | _, _ => none
def augI (i : Nat) (fe : M O) : M Out := (pk i).bind fun a => fe.bind fun b => (M.of (addI a b)).bind fun z => (putS i z).bind fun _ => M.pure .nx
theorem addI_some {a b z : O} (h : addI a b = some z) : ∃ p q : Int, a = .val (.int p) ∧ b = .val (.int q) ∧ z = .val (.int (p + q)) := by
  unfold addI at h
  split at h
  · cases h; exact ⟨_, _, rfl, rfl, rfl⟩
  · cases h
section
variable {g : Gv} {W : WX} {pn : List Nat} {X : Cx} {e : Expr} {pos : Pos}
theorem s_augI {i : Nat} {x : Str} {pos' : Pos} {f : M O} (hN : X.N.Nodup) (hi : X.N[i]? = some x) (hx : Loc X.env.scope x) (hp : i ∉ pn) (he : PE X e (T g W f)) (hf : X.fn x = true ∨ X.env.scope.names.lookup x = some .local := by first | exact .inl rfl | exact .inr rfl | assumption) :
    PS X (.AugAssign (.Name x pos') .Add e pos) (Ts g W pn (augI i f)) :=
  PS.imp (ps_aug hN hi hx he ip_add hf) fun D σ H ⟨F, Gx, ρ, st, r⟩ => by
    obtain ⟨a, ha, r1⟩ := Rs.pk r
    obtain ⟨v, S, hv, rep⟩ := st.peek ha
    refine ⟨v, hv, F, Gx, ρ, st, r1.expr.mono fun b H1 F1 ρ1 le r2 y st1 => ?_⟩
    obtain ⟨z, ez, r3⟩ := r2.expr.of (H := H1)
    obtain ⟨p, q, rfl, rfl, rfl⟩ := addI_some ez
    have e1 : v = .int p := by
      rw [RepO] at rep
      first | exact rep | (have := rep; rw [RepV] at this; exact this) | (have := rep.1; rw [RepV] at this; exact this) | (have := rep.2; rw [RepV] at this; exact this)
    have e2 : y = .int q := by
      have rv := st1.gd.val (B := slL σ ρ1)
      rw [RepV] at rv; exact rv
    exact ⟨p, q, e1, e2, Ts_nx (Ts_put hp (st1.drop1.ofVal repI) (r3 H1 F1 (Le.refl _)))⟩
end
end PF

set_option Elab.async false
set_option linter.all false
set_option maxRecDepth 100000
set_option maxHeartbeats 1000000
namespace PF
open PySem PySem.Spec PyProof.Rows L2
/-! ### an attribute of an instance, read -/
def fldD (f : Str) : List Str → List D → Option D
  | n :: ns, d :: ds => if (f == n) = true then some d else fldD f ns ds
  | _, _ => none
def fldL (f : Str) : List Str → List O → Option O
  | n :: ns, o :: os => if (f == n) = true then some o else fldL f ns os
  | _, _ => none
def fldF (C : Nat) (f : Str) : O → Option O
  | .val (.ins c ns ds) => if c = C then (fldD f ns ds).map .val else none
  | .ins c ns os => if c = C then match fldL f ns os with
    | some (.val d) => some (.val d)
    | _ => none else none
  | _ => none
def fldE (C : Nat) (f : Str) (fe : M O) : M O := fe.bind fun o => M.of (fldF C f o)
theorem lookup_cons_if {α : Type} {f n : Str} {v : α} {l : List (Str × α)} : ((n, v) :: l).lookup f = if (f == n) = true then some v else l.lookup f := by
  rw [List.lookup_cons]
  cases f == n <;> rfl
theorem fldD_ok {g : Gv} {F : Hp} {f : Str} : ∀ {ns : List Str} {ds : List D} {vs : List V} {d : D}, RepVs g F ds vs → fldD f ns ds = some d → ∃ w, (ns.zip vs).lookup f = some w ∧ RepV g F d w
  | [], _, _, _, _, e => by cases e
  | n :: ns, [], _, _, _, e => by cases e
  | n :: ns, d :: ds, vs, d', r, e => by
    rw [RepVs] at r
    obtain ⟨v, r, rfl, r1, r2⟩ := r
    rw [fldD] at e
    rw [List.zip_cons_cons, lookup_cons_if]
    split at e
    · rename_i h; cases e; rw [if_pos h]; exact ⟨v, rfl, r1⟩
    · rename_i h; rw [if_neg h]; exact fldD_ok r2 e
theorem fldL_ok {g : Gv} {H F : Hp} {f : Str} : ∀ {ns : List Str} {os : List O} {vs : List V} {d : D} {S : Addr → Prop}, RepOs g H F os vs S → fldL f ns os = some (.val d) → ∃ w, (ns.zip vs).lookup f = some w ∧ RepV g F d w
  | [], _, _, _, _, _, e => by cases e
  | n :: ns, [], _, _, _, _, e => by cases e
  | n :: ns, o :: os, vs, d', S, r, e => by
    rw [RepOs] at r
    obtain ⟨v, r, S1, S2, rfl, _, r1, r2⟩ := r
    rw [fldL] at e
    rw [List.zip_cons_cons, lookup_cons_if]
    split at e
    · rename_i h; cases e; rw [if_pos h]; rw [RepO] at r1; exact ⟨v, rfl, r1⟩
    · rename_i h; rw [if_neg h]; exact fldL_ok r2 e
section
variable {W : WX} {X : Cx} {ca : Ca} {e : Expr} {f : Str} {pos : Pos} {fe : M O}
theorem e_fld {C : Nat} (he : PE X e (TR (gv X ca) W fe)) (hC : Cls X.K (ca C)) (hn : NoAttr X.K (ca C) f) (hb : attributeBase e f X.env (eval e X.env) = eval e X.env := by rfl) : PE X (.Attribute e f pos) (T (gv X ca) W (fldE C f fe)) :=
  PE.imp (pe_fld he hb) fun σ H Q ⟨F, Gx, ρ, st, r⟩ => by
    refine ⟨F, Gx, ρ, st, r.bind.mono fun o H1 F1 ρ1 le r1 v S st1 rep => ?_⟩
    obtain ⟨z, ez, r2⟩ := r1.of
    unfold fldF at ez
    split at ez
    · rename_i c ns ds
      split at ez
      · rename_i hc; subst hc
        obtain ⟨d, ed, rfl⟩ := Option.map_eq_some_iff.mp ez
        rw [RepO, RepV] at rep
        obtain ⟨a, dx, vs, rfl, hl, ha, rv⟩ := rep
        obtain ⟨w, hw, rw'⟩ := fldD_ok rv ed
        exact ⟨a, _, dx, _, w, rfl, st1.le _ _ ha, hC, hn, hw, r2 H1 F1 (Le.refl _) w (st1.ofVal rw')⟩
      · cases ez
    · rename_i c ns os
      split at ez
      · rename_i hc; subst hc
        split at ez
        · rename_i d ed
          cases ez
          rw [RepO] at rep
          obtain ⟨a, dx, vs, rfl, _, hl, ha, rv⟩ := rep
          obtain ⟨w, hw, rw'⟩ := fldL_ok rv ed
          exact ⟨a, _, dx, _, w, rfl, ha, hC, hn, hw, r2 H1 F1 (Le.refl _) w (st1.ofVal rw')⟩
        · cases ez
      · cases ez
    · cases ez
end
end PF

set_option Elab.async false
set_option linter.all false
set_option maxRecDepth 100000
set_option maxHeartbeats 1000000
namespace PF
open PySem PySem.Spec PyProof.Rows L2
/-! ### an instance, made -/
def makeF (C : Nat) (fs : M (List O)) (sem : M O) : M O := fs.bind fun os => fun ρ => match sem (some (.ins C [] []) :: os.map some) with
  | some (.ok (.val .non), some o :: _) => some (.ok o, ρ)
  | some (.ex e, _) => some (.ex e, ρ)
  | _ => none
def tMakeSD (C : Addr) (sp : Sp) (E : L2.St → XK) (t : TA) : TE := fun σ H Q => t σ H fun vs H1 => ∀ x dx, H1 x = none → H1 dx = none → dx ≠ x → sp (.ref x :: vs) (upd (upd H1 dx (.own x)) x (.ins C dx [])) (fun v H2 => v = .non ∧ Q (.ref x) H2) (E σ)
section
variable {X : Cx} {CX : CXT} {k : Nat} {f C : Addr} {fd : FuncData} {ps : List Str} {sp : Sp} {E : L2.St → XK} {x : Str} {p pos : Pos} {e : Expr} {es : List Expr} {t : TA}
theorem run_makeSD {pins : List (Addr × Obj)} {σ : L2.St} {H : Hp} {s : Shared} {Q : VK} {us : List Value} {vs : List V} (M : Mk X.K C f) (F : FnOk X.prog X.w X.K X.mg X.base CX k f fd ps sp) (hr : Room (k + 1) X.A) (hb : Binds X.K fd ps [])
    (hx : PassesAt CX X σ (E σ)) (I : Inv X pins σ H s) (r : Vals vs us)
    (h : ∀ x dx, H x = none → H dx = none → dx ≠ x → sp (.ref x :: vs) (upd (upd H dx (.own x)) x (.ins C dx [])) (fun v H2 => v = .non ∧ Q (.ref x) H2) (E σ)) :
    wpAny (model X.prog X.w) X.A (call (.ref C) us) (EP X pins σ Q) X.xe s := by
  have hq := h (s.heap.objs.size + 1) s.heap.objs.size (I.hok.fresh (Nat.le_succ _)) (I.hok.fresh (Nat.le_refl _)) (Nat.ne_of_lt (Nat.lt_succ_self _))
  have I2 := Inv.made (C := C) I
  have r2 : Vals (V.ref (s.heap.objs.size + 1) :: vs) (Value.ref (s.heap.objs.size + 1) :: us) := .cons rfl r
  have hl : (Value.ref (s.heap.objs.size + 1) :: us ++ []).length = ps.length := by
    have e := r2.length
    rw [F.len _ _ _ _ hq] at e
    rw [List.append_nil]
    exact e.symm
  have hb2 := hb _ (Value.ref (s.heap.objs.size + 1) :: us) I2.kIn hl
  rw [List.append_nil] at hb2
  refine wpAny_call (make_map (f := f) I.kIn M.makes M.init (beq_iff_eq.mp M.fn) (codeAny_mono (F.run _ X.stack _ _ ⟨Value.ref (s.heap.objs.size + 1) :: us, []⟩ (Value.ref (s.heap.objs.size + 1) :: us) _ _ (E σ) (hr.make C us [])
    (I2.env0.make C us []) hb2 r2 hq) fun r s' hq' => ?_))
  cases r with
  | error e => exact hx pins _ _ e s' I2 hq'
  | ok fl =>
    cases fl with
    | ret u =>
      obtain ⟨v, H', I3, rv, ev, q3⟩ := I2.after hq'
      subst ev
      exact ⟨rv, ⟨V.ref (s.heap.objs.size + 1), H', I3, rfl, q3⟩⟩
    | next => exact False.elim hq'
    | brk => exact False.elim hq'
    | cont => exact False.elim hq'
theorem pe_makeSD (M : Mk X.K C f) (F : FnOk X.prog X.w X.K X.mg X.base CX k f fd ps sp) (hr : Room (k + 1) X.A) (hg : Gl X x) (hm : X.mg x = some (.ref C)) (hb : Binds X.K fd ps []) (hx : ∀ σ, PassesAt CX X σ (E σ))
    (ha : PA X (e :: es) t) (hdb : (x == ("__debug__" : Str)) = false := by decide) (he : starEach (e :: es) X.env = (false, eval e X.env) :: starEach es X.env := by rfl) (hpl : (backTo pos (starEach es X.env)).any (·.1) = false := by rfl) :
    PE X (.Call (.Name x p) (e :: es) [] pos) (tMakeSD C sp E t) := by
  refine ⟨fun pins s σ H Q I h => ?_⟩
  refine wpAny_Call_Name_kw (ld_glob I hg hm ?_ hdb)
  refine PySem.W.callWith_K (h₀ := X.base) I.ok.mod.kin M.kp (thn (ha.run pos pins s σ H _ I h) fun us s1 ⟨vs, H1, I1, r, q⟩ => ⟨I1.kIn, ?_⟩) he hpl
  exact run_makeSD M F hr hb (hx σ) I1 r q
end
section
variable {g : Gv} {W : WX} {σ : L2.St}
theorem make_run {C : Nat} {ms : List Bool} {sem : M O} {os : List O} {H F Gx : Hp} {ρ : Sls} {vs : List V} {Q : VK} (hms : ms.length = os.length) (hl : vs.length = os.length) (st : StG g H F Gx σ ρ (vs.zip os))
    (r : Rn g W (fun ρ => match sem (some (.ins C [] []) :: os.map some) with
      | some (.ok (.val .non), some o :: _) => some (.ok o, ρ)
      | some (.ex e, _) => some (.ex e, ρ)
      | _ => none) σ H F Gx ρ fun o H' F' ρ' => ∀ v, StG g H' F' Gx σ ρ' [(v, o)] → Q v H') {x dx : Addr} (hx : H x = none) (hdx : H dx = none) (hne : dx ≠ x) :
    spOf g (true :: ms) sem (.ref x :: vs) (upd (upd H dx (.own x)) x (.ins (g.ca C) dx [])) (fun v H2 => v = .non ∧ Q (.ref x) H2) (WE W σ) := by
  have g1 : Good g (upd H dx (.own x)) F Gx (vs.zip os ++ slL σ ρ) := st.gd.junk hdx
  have hx2 : (upd H dx (.own x)) x = none := by rw [upd_ne (Ne.symm hne)]; exact hx
  have g2 := Good.newO (o := .ins C [] []) (u := .ins (g.ca C) dx []) g1 hx2 fun S hS => by
    rw [RepO]
    exact ⟨x, dx, [], rfl, hS, rfl, by unfold upd; simp, by rw [RepOs]⟩
  have hz : ∀ (vs : List V) (os : List O), vs.length = os.length → slL (vs.map some) (os.map some) = vs.zip os := by
    intro vs
    induction vs with
    | nil => intro os h; cases os with
      | nil => rfl
      | cons o os => simp at h
    | cons v vs ih => intro os h; cases os with
      | nil => simp at h
      | cons o os => rw [List.map_cons, List.map_cons, slL, ih os (by simpa using h)]; rfl
  have g3 : Good g (upd (upd H dx (.own x)) x (.ins (g.ca C) dx [])) F Gx (slL ((V.ref x :: vs).map some) (some (.ins C [] []) :: os.map some) ++ slL σ ρ) := by
    rw [List.map_cons, slL, hz vs os hl]
    exact g2
  obtain ⟨Gx', gc, back⟩ := g3.aside
  have wc : SlW ((V.ref x :: vs).map some) (some (.ins C [] []) :: os.map some) := fun i o e => by
    have hi := (List.getElem?_eq_some_iff.mp e).1
    have hi2 : i < (V.ref x :: vs).length := by simp at hi ⊢; omega
    exact ⟨(V.ref x :: vs)[i], by rw [List.getElem?_map, List.getElem?_eq_getElem hi2]; rfl⟩
  refine ⟨by simp [hl, hms], F, Gx', _, ⟨wc, by simp [hl], gc⟩, ?_⟩
  unfold Rn at r
  cases hs : sem (some (.ins C [] []) :: os.map some) with
  | none => simp [hs] at r
  | some q =>
    obtain ⟨rz, c'⟩ := q
    simp only [hs] at r
    cases rz with
    | ex e =>
      exact fun d H' F' le st' xa => r H' F' d le ⟨st.wf, st.len, (back H' F' _ le st'.gd).dropL⟩ xa
    | ok o =>
      cases o with
      | val d0 =>
        cases d0 with
        | non =>
          cases c' with
          | nil => exact r.elim
          | cons r0 c'' =>
            cases r0 with
            | none => exact r.elim
            | some o1 =>
              intro v H' F' le st'
              have gv := st'.gd
              have hv : v = .non := by
                have := gv.val (B := slL ((V.ref x :: vs).map some) (mask (true :: ms) (some o1 :: c'')))
                rw [RepV] at this; exact this
              refine ⟨hv, r H' F' le (.ref x) ⟨st.wf, st.len, ?_⟩⟩
              have gb := back H' F' _ le gv.drop1
              have gb2 : Good g H' F' Gx ((V.ref x, o1) :: (slL (vs.map some) (mask ms c'') ++ slL σ ρ)) := gb
              have gb3 := gb2.perm (L' := slL (vs.map some) (mask ms c'') ++ ((V.ref x, o1) :: slL σ ρ)) (List.perm_middle.symm)
              exact gb3.dropL
        | _ => exact r.elim
      | _ => exact r.elim
end
section
variable {W : WX} {X : Cx} {ca : Ca} {k : Nat} {f : Addr} {fd : FuncData} {ps : List Str} {ms : List Bool} {sem : M O} {x : Str} {p pos : Pos} {e : Expr} {es : List Expr} {fs : M (List O)}
theorem e_make {C : Nat} (M : Mk X.K (ca C) f) (Fo : FnOk X.prog X.w X.K X.mg X.base (L2.CX X.prog X.w) k f fd ps (spOf (gv X ca) (true :: ms) sem)) (hr : Room (k + 1) X.A) (hg : Gl X x) (hm : X.mg x = some (.ref (ca C))) (hb : Binds X.K fd ps []) (tk : Takes X W)
    (hms : ms.length = (e :: es).length) (hfs : ∀ ρ os ρ', fs ρ = some (.ok os, ρ') → os.length = (e :: es).length) (ha : PA X (e :: es) (TL (gv X ca) W fs)) (hdb : (x == ("__debug__" : Str)) = false := by decide) (he : starEach (e :: es) X.env = (false, eval e X.env) :: starEach es X.env := by rfl) (hpl : (backTo pos (starEach es X.env)).any (·.1) = false := by rfl) :
    PE X (.Call (.Name x p) (e :: es) [] pos) (T (gv X ca) W (makeF C fs sem)) :=
  PE.imp (pe_makeSD (E := WE W) M Fo hr hg hm hb (fun σ => passAt tk σ) ha hdb he hpl) fun σ H Q ⟨F, Gx, ρ, st, r⟩ => by
    refine ⟨F, Gx, ρ, st, ?_⟩
    have hlen : ∀ os ρ', fs ρ = some (.ok os, ρ') → os.length = (e :: es).length := hfs ρ
    have r0 := r.bind
    unfold Rn at r0 ⊢
    split <;> rename_i q <;> rw [q] at r0
    · exact r0
    · rename_i os ρ1
      intro H1 F1 le vs hl st1 x dx hx hdx hne
      exact make_run (by rw [hms, hlen _ _ q]) hl st1 (r0 H1 F1 le) hx hdx hne
    · exact r0
end
end PF

set_option Elab.async false
set_option linter.all false
set_option maxRecDepth 100000
set_option maxHeartbeats 1000000
namespace PF
open PySem PySem.Spec PyProof.Rows L2
/-! ### o.m(e, ..): the receiver handed on, as the first argument -/
def chkI (C : Nat) (m : Str) : O → Option O
  | .val (.ins c ns ds) => if c = C ∧ ns.contains m = false then some (.val (.ins c ns ds)) else none
  | .ins c ns os => if c = C ∧ ns.contains m = false then some (.ins c ns os) else none
  | _ => none
def chkM (C : Nat) (m : Str) (fo : M O) : M O := fo.bind fun o => M.of (chkI C m o)
theorem lookup_no {m : Str} : ∀ {ns : List Str} {vs : List V}, ns.contains m = false → (ns.zip vs).lookup m = none
  | [], _, _ => rfl
  | n :: ns, [], _ => rfl
  | n :: ns, v :: vs, h => by
    rw [List.contains_cons, Bool.or_eq_false_iff] at h
    rw [List.zip_cons_cons, lookup_cons_if, h.1]
    exact lookup_no h.2
theorem chkI_ok {g : Gv} {H F : Hp} {C : Nat} {m : Str} {o o' : O} {v : V} {S : Addr → Prop} (le : Le F H) (e : chkI C m o = some o') (rep : RepO g H F o v S) : o' = o ∧ ∃ a dx fs, v = .ref a ∧ H a = some (.ins (g.ca C) dx fs) ∧ fs.lookup m = none := by
  unfold chkI at e
  split at e
  · split at e
    · rename_i h; obtain ⟨rfl, h2⟩ := h
      cases e
      rw [RepO, RepV] at rep
      obtain ⟨a, dx, vs, rfl, hl, ha, rv⟩ := rep
      exact ⟨rfl, a, dx, _, rfl, le _ _ ha, lookup_no h2⟩
    · cases e
  · split at e
    · rename_i h; obtain ⟨rfl, h2⟩ := h
      cases e
      rw [RepO] at rep
      obtain ⟨a, dx, vs, rfl, _, hl, ha, rv⟩ := rep
      exact ⟨rfl, a, dx, _, rfl, ha, lookup_no h2⟩
    · cases e
  · cases e
section
variable {W : WX} {X : Cx} {ca : Ca} {k : Nat} {f : Addr} {fd : FuncData} {ps : List Str} {ms : List Bool} {sem : M O} {m : Str} {p pos apos : Pos} {e o : Expr} {es : List Expr} {ks : List (Option Nat)} {fs : M (List O)} {fo : M O}
theorem e_meth {C : Nat} {pl : Sem Bool} (c : Cls X.K (ca C)) (hm : Meth X.K (ca C) m f) (Fo : FnOk X.prog X.w X.K X.mg X.base (L2.CX X.prog X.w) k f fd ps (spOf (gv X ca) (false :: ms) sem)) (hr : Room k X.A) (hb : Binds X.K fd ps []) (tk : Takes X W)
    (hms : ms.length = ks.length) (he : PE X o (T (gv X ca) W fo)) (ha : PA X (e :: es) (TLm (gv X ca) W ks fs))
    (hst : starEach (e :: es) X.env = (false, eval e X.env) :: starEach es X.env := by rfl) (hpl : (backTo pos (starEach es X.env)).any (·.1) = false := by rfl)
    (ht : eval (.Call (.Attribute o m apos) (e :: es) [] pos) X.env = (do
      let ov ← eval o X.env
      standAt apos.atName
      let (f, first) ← holding [ov] (getMethod ov m pl)
      callWith pos f first (backTo pos (starEach (e :: es) X.env)) (backToKw pos (keywordEach [] X.env))) := by rfl) :
    PE X (.Call (.Attribute o m apos) (e :: es) [] pos) (T (gv X ca) W (callF (none :: ks) (consA (chkM C m fo) fs) (false :: ms) sem)) :=
  PE.imp (pe_methSD (E := WE W) he c hm Fo hr hb (fun σ => passAt tk σ) ha hst hpl ht) fun σ H Q ⟨F, Gx, ρ, st, r⟩ => by
    have r0 := r.bind
    have r1 := Rn.bind (f := chkM C m fo) (k := fun o => fs.bind fun os => M.pure (o :: os)) r0
    have r2 := Rn.bind (f := fo) r1
    refine ⟨F, Gx, ρ, st, r2.mono fun o H1 F1 ρ1 le r3 v st1 => ?_⟩
    obtain ⟨o', eo, r4⟩ := r3.of
    obtain ⟨S, rep⟩ := st1.gd.view
    obtain ⟨rfl, a, dx, fs', rfl, ha, hlk⟩ := chkI_ok st1.le eo rep
    refine ⟨a, dx, fs', rfl, ha, hlk, ?_⟩
    obtain ⟨Gx', st1', back⟩ := st1.aside
    refine ⟨F1, Gx', ρ1, st1', ((r4 H1 F1 (Le.refl _)).aside fun H' F' ρ' le q => (back H' F' ρ' [] le q).drop1).bind.mono fun os H2 F2 ρ2 le2 r5 us vs hl mg st2 => ?_⟩
    exact call_run (ks := none :: ks) (ms := false :: ms) (us := .ref a :: us) (vs := .ref a :: vs) (by simp [hms]) (by simp [hl]) ⟨.ref a, us, vs, rfl, rfl, mg⟩ (back H2 F2 ρ2 _ le2 st2) (r5.pure H2 F2 (Le.refl _))
end
/-! lengths of argument lists -/
def LenA (fs : M (List O)) (n : Nat) : Prop := ∀ ρ os ρ', fs ρ = some (.ok os, ρ') → os.length = n
theorem len_nil : LenA nilA 0 := fun ρ os ρ' e => by cases e; rfl
theorem len_cons {f : M O} {fs : M (List O)} {n : Nat} (h : LenA fs n) : LenA (consA f fs) (n + 1) := fun ρ os ρ' e => by
  have e : (f.bind fun o => fs.bind fun os => M.pure (o :: os)) ρ = some (.ok os, ρ') := e
  cases h1 : f ρ with
  | none => simp [M.bind, h1] at e
  | some q =>
    obtain ⟨rz, ρ1⟩ := q
    cases rz with
    | ex x => simp [M.bind, h1] at e
    | ok o =>
      cases h2 : fs ρ1 with
      | none => simp [M.bind, h1, h2] at e
      | some q2 =>
        obtain ⟨rz2, ρ2⟩ := q2
        cases rz2 with
        | ex x => simp [M.bind, h1, h2] at e
        | ok os1 =>
          have e : (some (Rz.ok (o :: os1), ρ2) : Option (Rz (List O) × Sls)) = some (.ok os, ρ') := by
            simpa [M.bind, h1, h2, M.pure] using e
          cases e
          rw [List.length_cons, h _ _ _ h2]
end PF

set_option Elab.async false
set_option linter.all false
set_option maxRecDepth 100000
set_option maxHeartbeats 1000000
namespace PF
open PySem PySem.Spec PyProof.Rows L2
/-! ### a write inside of what a slot owns -/
section
variable {g : Gv} {H F Gx : Hp} {σ : L2.St} {ρ : Sls} {L A : List (V × O)}
/-- how a thing inside of a slot's own thing may be written -/
theorem StG.wrN {i : Nat} {o : O} {v : V} (st : StG g H F Gx σ ρ (A ++ L)) (hi : ρ[i]? = some (some o)) (hv : σ[i]? = some (some v)) :
    ∃ S1 SA, RepO g H F o v S1 ∧ RepL g H F A SA ∧ (∀ b, S1 b → SA b → False) ∧ ∀ (o' : O) (a : Addr) (u : HO), S1 a → RepO g (upd H a u) F o' v (fun b => S1 b ∨ SA b) → StG g (upd H a u) F Gx σ (ρ.set i (some o')) L := by
  obtain ⟨v, hv', st2⟩ := st.take hi
  rw [hv] at hv'; cases hv'
  have gd : Good g H F Gx ((v, o) :: (A ++ (L ++ slL σ (ρ.set i none)))) := by
    have z := st2.gd
    rw [List.cons_append, List.append_assoc] at z
    exact z
  obtain ⟨S, hT, hF, hG, hFG, hS, S1, S2, sp, r1, r2⟩ := gd.ex
  obtain ⟨SA, SL, sp2, rA, rL⟩ := RepL.split g A _ S2 r2
  refine ⟨S1, SA, r1, rA, fun b h1 h2 => sp.d b h1 (sp2.l b h2), fun o' a u ha ro => ?_⟩
  obtain ⟨nF, nG, _⟩ := hS a (sp.l a ha)
  have st3 : StG g (upd H a u) F Gx σ (ρ.set i none) ((v, o') :: L) := ⟨st2.wf, st2.len, S, hT.wr (sp.l a ha), fun b o e => by
      rw [upd_ne (fun q => by subst q; rw [nF] at e; cases e)]; exact hF b o e, fun b o e => by
      rw [upd_ne (fun q => by subst q; rw [nG] at e; cases e)]; exact hG b o e, hFG, fun b hb => by
      obtain ⟨x, y, z⟩ := hS b hb
      refine ⟨x, y, ?_⟩
      by_cases q : b = a
      · subst q; exact ⟨_, upd_same⟩
      · rw [upd_ne q]; exact z, fun b => S1 b ∨ SA b, SL, ⟨fun b hb => hb.elim (sp.l b) fun hb => sp.r b (sp2.l b hb), fun b hb => sp.r b (sp2.r b hb), fun b h1 h2 => h1.elim (fun h1 => sp.d b h1 (sp2.r b h2)) fun h1 => sp2.d b h1 h2⟩,
      ro, RepL.frame g (Le.refl F) _ SL SL (fun _ h => h) (fun b hb => upd_ne (fun e => sp.d a ha (by rw [← e]; exact sp2.r b hb))) rL⟩
  have hl := st.lt hi
  have st4 := st3.putback (i := i) hv (by simp [hl])
  rw [List.set_set] at st4
  exact st4
/-- one part of a row of parts, and what may be put in its place -/
theorem RepOs.sub : ∀ {os : List O} {vs : List V} {S : Addr → Prop} {j : Nat} {o1 : O}, RepOs g H F os vs S → os[j]? = some o1 → ∃ w S1, vs[j]? = some w ∧ (∀ b, S1 b → S b) ∧ RepO g H F o1 w S1 ∧
    ∀ (a : Addr) (u : HO) (o1' : O) (T : Addr → Prop), S1 a → (∀ b, S b → T b → False) → RepO g (upd H a u) F o1' w (fun b => S1 b ∨ T b) → RepOs g (upd H a u) F (os.set j o1') vs (fun b => S b ∨ T b)
  | [], vs, S, j, o1, r, e => by simp at e
  | o :: os, vs, S, 0, o1, r, e => by
    rw [RepOs] at r
    obtain ⟨v, r, S1, S2, rfl, sp, r1, r2⟩ := r
    simp at e
    subst e
    refine ⟨v, S1, rfl, sp.l, r1, fun a u o1' T ha hd ro => ?_⟩
    rw [List.set_cons_zero, RepOs]
    exact ⟨v, r, fun b => S1 b ∨ T b, S2, rfl, ⟨fun b h => h.elim (fun h => .inl (sp.l b h)) .inr, fun b h => .inl (sp.r b h), fun b h1 h2 => h1.elim (fun h1 => sp.d b h1 h2) (fun h1 => hd b (sp.r b h2) h1)⟩, ro,
      RepOs.frame g (Le.refl F) _ _ S2 S2 (fun _ h => h) (fun b hb => upd_ne (fun e => sp.d a ha (by rw [← e]; exact hb))) r2⟩
  | o :: os, vs, S, j + 1, o1, r, e => by
    rw [RepOs] at r
    obtain ⟨v, r, S1, S2, rfl, sp, r1, r2⟩ := r
    simp at e
    obtain ⟨w, T1, hw, hs, ro, q⟩ := RepOs.sub r2 e
    refine ⟨w, T1, by simpa using hw, fun b h => sp.r b (hs b h), ro, fun a u o1' T ha hd ro' => ?_⟩
    rw [List.set_cons_succ, RepOs]
    exact ⟨v, r, S1, fun b => S2 b ∨ T b, rfl, ⟨fun b h => .inl (sp.l b h), fun b h => h.elim (fun h => .inl (sp.r b h)) .inr, fun b h1 h2 => h2.elim (fun h2 => sp.d b h1 h2) (fun h2 => hd b (sp.l b h1) h2)⟩,
      RepO.frame g (Le.refl F) _ _ S1 S1 (fun _ h => h) (fun b hb => upd_ne (fun e => sp.d b hb (by rw [e]; exact hs a ha))) r1, q a u o1' T ha (fun b h1 h2 => hd b (sp.r b h1) h2) ro'⟩
end
end PF

set_option Elab.async false
set_option linter.all false
set_option maxRecDepth 100000
set_option maxHeartbeats 1000000
namespace PF
open PySem PySem.Spec PyProof.Rows L2
/-! ### self.f = e -/
def putNs (f : Str) : List Str → List Str
  | [] => [f]
  | n :: ns => if n = f then n :: ns else n :: putNs f ns
def putXs {α : Type} (f : Str) (v : α) : List Str → List α → List α
  | [], _ => [v]
  | n :: ns, o :: os => if n = f then v :: os else o :: putXs f v ns os
  | _ :: _, [] => []
def setFld (C : Nat) (f : Str) (v : O) : O → Option O
  | .ins c ns os => if c = C ∧ ns.length < 1000 then some (.ins c (putNs f ns) (putXs f v ns os)) else none
  | _ => none
def fldS (C i : Nat) (f : Str) (fe : M O) : M Out := fe.bind fun v => (upM i (setFld C f v)).bind fun _ => M.pure .nx
theorem zip_put {f : Str} {y : V} : ∀ {ns : List Str} {vs : List V}, ns.length = vs.length → putF f y (ns.zip vs) = (putNs f ns).zip (putXs f y ns vs) ∧ (putNs f ns).length = (putXs f y ns vs).length
  | [], [], _ => ⟨rfl, rfl⟩
  | [], _ :: _, h => by simp at h
  | _ :: _, [], h => by simp at h
  | n :: ns, v :: vs, h => by
    obtain ⟨a, b⟩ := zip_put (f := f) (y := y) (ns := ns) (vs := vs) (by simpa using h)
    rw [List.zip_cons_cons, putF, putNs, putXs]
    by_cases hn : n = f
    · rw [if_pos hn, if_pos hn, if_pos hn]
      exact ⟨rfl, h⟩
    · rw [if_neg hn, if_neg hn, if_neg hn, a]
      exact ⟨rfl, by simp [b]⟩
theorem RepOs.put {g : Gv} {H F : Hp} {f : Str} {v : O} {y : V} {T : Addr → Prop} (ro : RepO g H F v y T) : ∀ {ns : List Str} {os : List O} {vs : List V} {S : Addr → Prop}, ns.length = vs.length → RepOs g H F os vs S → (∀ b, S b → T b → False) → RepOs g H F (putXs f v ns os) (putXs f y ns vs) (fun b => S b ∨ T b)
  | [], os, vs, S, h, r, d => by
    have hv : vs = [] := List.eq_nil_of_length_eq_zero (by simpa using h.symm)
    subst hv
    rw [putXs, putXs, RepOs]
    exact ⟨y, [], T, fun _ => False, rfl, ⟨fun _ h => .inr h, fun _ h => h.elim, fun _ _ h => h⟩, ro, by rw [RepOs]⟩
  | n :: ns, [], vs, S, h, r, d => by rw [RepOs] at r; subst r; simp at h
  | n :: ns, o :: os, vs, S, h, r, d => by
    rw [RepOs] at r
    obtain ⟨w, ws, S1, S2, rfl, sp, r1, r2⟩ := r
    rw [putXs, putXs]
    by_cases hn : n = f
    · rw [if_pos hn, if_pos hn, RepOs]
      exact ⟨y, ws, T, S2, rfl, ⟨fun _ h => .inr h, fun b h => .inl (sp.r b h), fun b h1 h2 => d b (sp.r b h2) h1⟩, ro, r2⟩
    · rw [if_neg hn, if_neg hn, RepOs]
      exact ⟨w, _, S1, fun b => S2 b ∨ T b, rfl, ⟨fun b h => .inl (sp.l b h), fun b h => h.elim (fun h => .inl (sp.r b h)) .inr, fun b h1 h2 => h2.elim (sp.d b h1) (d b (sp.l b h1))⟩, r1, RepOs.put ro (by simpa using h) r2 fun b h1 h2 => d b (sp.r b h1) h2⟩
section
variable {W : WX} {pn : List Nat} {X : Cx} {ca : Ca} {o value : Expr} {f : Str} {pos pos' : Pos} {fe : M O}
theorem s_fld {C i : Nat} (ha : PE X o (tVar i)) (hv : PE X value (T (gv X ca) W fe)) (hC : Cls X.K (ca C)) (hn : NoAttr X.K (ca C) f) (hs : swapsWith value (some (.Attribute o f pos')) pos.line X.env = pure false := by rfl) :
    PS X (.Assign [.Attribute o f pos'] value pos) (Ts (gv X ca) W pn (fldS C i f fe)) :=
  PS.imp (ps_fld ha hv hs) fun D σ H ⟨F, Gx, ρ, st, r⟩ => by
    refine ⟨F, Gx, ρ, st, r.expr.mono fun v H1 F1 ρ1 le r1 y st1 => ?_⟩
    obtain ⟨o0, o1, hi, e, q⟩ := Rs.up r1.bind
    obtain ⟨x, _, hx, _⟩ := st1.peek hi
    obtain ⟨S1, SA, rr, rA, d, w⟩ := StG.wrN (A := [(y, v)]) (L := []) st1 hi hx
    cases o0 with
    | ins c ns os =>
      rw [setFld] at e
      split at e
      · rename_i hc
        obtain ⟨rfl, hlen⟩ := hc
        cases e
        rw [RepO] at rr
        obtain ⟨a, dx, vs, rfl, sa, hl, hq, rs⟩ := rr
        obtain ⟨z1, z2⟩ := zip_put (f := f) (y := y) hl
        refine ⟨.ref a, hx, a, _, dx, ns.zip vs, rfl, hq, hC, hn, by rw [List.length_zip]; omega, ?_⟩
        have st2 := w (.ins c (putNs f ns) (putXs f v ns os)) a (.ins (ca c) dx (putF f y (ns.zip vs))) sa (by
          rw [RepO]
          refine ⟨a, dx, putXs f y ns vs, rfl, .inl sa, z2, by rw [upd_same, z1], ?_⟩
          exact RepOs.wrote (RepOs.put (RepL.one rA) hl rs fun b h1 h2 => d b h1.1 h2) sa d)
        exact (q (upd H1 a (.ins (ca c) dx (putF f y (ns.zip vs)))) F1 σ (Le.refl _) (Pin.refl _)).pure _ F1 σ (Le.refl _) (Pin.refl _) st2
      · cases e
    | _ => cases e
end
end PF

set_option Elab.async false
set_option linter.all false
set_option maxRecDepth 100000
set_option maxHeartbeats 1000000
namespace PF
open PySem PySem.Spec PyProof.Rows L2
/-! ### self.f.append(name) -/
def idxS (f : Str) : List Str → Option Nat
  | [] => none
  | n :: ns => if (f == n) = true then some 0 else (idxS f ns).map (· + 1)
theorem idxS_look {f : Str} : ∀ {ns : List Str} {vs : List V} {j : Nat} {w : V}, idxS f ns = some j → vs[j]? = some w → (ns.zip vs).lookup f = some w
  | [], _, _, _, e, _ => by cases e
  | n :: ns, [], _, _, _, h => by simp at h
  | n :: ns, v :: vs, j, w, e, h => by
    rw [idxS] at e
    rw [List.zip_cons_cons, lookup_cons_if]
    split at e
    · rename_i hf
      cases e
      rw [if_pos hf]
      simpa using h
    · rename_i hf
      rw [if_neg hf]
      obtain ⟨i, hi, rfl⟩ := Option.map_eq_some_iff.mp e
      exact idxS_look hi (by simpa using h)
def pushFld (C : Nat) (f : Str) (v : O) : O → Option O
  | .ins c ns os => if c = C then (idxS f ns).bind fun j => (os[j]?).bind fun o => (pushO v o).map fun o' => .ins c ns (os.set j o') else none
  | _ => none
def appFldN (C i : Nat) (f : Str) (j : Nat) : M O := (pk j).bind fun v => match v with
  | .val d => (upM i (pushFld C f (.val d))).bind fun _ => M.pure (.val .non)
  | _ => M.stuck
section
variable {W : WX} {X : Cx} {ca : Ca} {a e : Expr} {f : Str} {fpos apos cpos : Pos}
theorem e_appFld {C : Nat} (i j : Nat) (ha : PE X a (tVar i)) (he : PE X e (tVar j)) (hC : Cls X.K (ca C)) (hn : NoAttr X.K (ca C) f) (hb : attributeBase a f X.env (eval a X.env) = eval a X.env := by rfl)
    (hbase : attributeBase (.Attribute a f fpos) "append" X.env (eval (.Attribute a f fpos) X.env) = eval (.Attribute a f fpos) X.env := by rfl)
    (hfew : ((backTo cpos (starEach [e] X.env)).all (fun x => !x.1) && (backToKw cpos (keywordEach [] X.env)).all (fun x => x.1.isSome)
      && decide (([e] : List Expr).length + ([] : List Keyword).length + (if ([] : List Keyword).isEmpty then 0 else 1) < 30)) = true := by rfl)
    (hline : (apos.endLine == cpos.line) = true := by rfl) (hs : starEach [e] X.env = (false, eval e X.env) :: starEach [] X.env := by rfl) (hplain : (backTo cpos (starEach [] X.env)).any (·.1) = false := by rfl) :
    PE X (.Call (.Attribute (.Attribute a f fpos) "append" apos) [e] [] cpos) (T (gv X ca) W (appFldN C i f j)) :=
  PE.imp (pe_bm PySem.F.plainAttrs_list PySem.F.slot_list_append PySem.F.type_list_append mt_append (pe_fld ha hb) (pa_cons he pa_nil hs) hbase hfew hline hs hplain) fun σ H Q ⟨F, Gx, ρ, st, r⟩ => by
    obtain ⟨v0, h0, r⟩ := r.pk
    obtain ⟨vv, S, hv, rv⟩ := st.peek h0
    cases v0 with
    | val d =>
      rw [RepO] at rv
      have st1 : StG (gv X ca) H F Gx σ ρ ([(vv, .val d)] ++ []) := st.ofVal rv
      obtain ⟨o1, o2, h1, h2, r2⟩ := Rn.up r
      obtain ⟨x, _, hx, _⟩ := st.peek h1
      obtain ⟨S1, SA, rr, rA, dd, w⟩ := StG.wrN (A := [(vv, .val d)]) (L := []) st1 h1 hx
      cases o1 with
      | ins c ns os =>
        rw [pushFld] at h2
        split at h2
        · rename_i hc; subst hc
          obtain ⟨k, hk, h2⟩ := Option.bind_eq_some_iff.mp h2
          obtain ⟨o3, h3, h2⟩ := Option.bind_eq_some_iff.mp h2
          obtain ⟨o4, h4, rfl⟩ := Option.map_eq_some_iff.mp h2
          rw [RepO] at rr
          obtain ⟨p, dx, vs, rfl, sa, hl, hq, rs⟩ := rr
          obtain ⟨u, T1, hu, hsub, ro3, put⟩ := RepOs.sub rs h3
          unfold pushO at h4
          split at h4
          · rename_i xs
            split at h4
            · rename_i hz
              cases h4
              rw [RepO] at ro3
              obtain ⟨l, ws, rfl, sl, hH, rws⟩ := ro3
              have hSl := (hsub l sl)
              have hw : ws.length = xs.length := rws.length
              have rsn := RepOs.snoc (T := SA) rws (RepL.one rA) fun b h1 h2 => dd b (hsub b h1.1).1 h2
              have rol : RepO (gv X ca) (upd H l (.lst (ws ++ [vv]))) F (.lst (xs ++ [.val d])) (.ref l) (fun b => T1 b ∨ SA b) := by
                rw [RepO]
                exact ⟨l, ws ++ [vv], rfl, .inl sl, upd_same, RepOs.wrote rsn sl fun b h1 h2 => dd b (hsub b h1).1 h2⟩
              have ro5 := put l (.lst (ws ++ [vv])) (.lst (xs ++ [.val d])) SA sl (fun b h1 h2 => dd b h1.1 h2) rol
              have st2 := w (.ins c ns (os.set k (.lst (xs ++ [.val d])))) l (.lst (ws ++ [vv])) hSl.1 (by
                rw [RepO]
                refine ⟨p, dx, vs, rfl, .inl sa, hl, by rw [upd_ne (Ne.symm hSl.2)]; exact hq, ?_⟩
                exact RepOs.sup _ (fun b hb => hb.elim (fun hb => ⟨.inl hb.1, hb.2⟩) (fun hb => ⟨.inr hb, fun e => dd p sa (by rw [← e]; exact hb)⟩)) ro5)
              refine ⟨_, hx, p, _, dx, ns.zip vs, .ref l, rfl, hq, hC, hn, idxS_look hk hu, .inl ⟨rfl, ws, SqL.of hH⟩, vv, hv, ?_⟩
              exact ⟨l, ws, vv, rfl, rfl, hH, by rw [hw]; exact lim_lt hz, (r2 (upd H l (.lst (ws ++ [vv])))).pure _ F (Le.refl _) .non (st2.ofVal repN)⟩
            · cases h4
          · cases h4
        · cases h2
      | _ => cases h2
    | _ => obtain ⟨_, _, e⟩ := r.run; cases e
end
end PF

set_option Elab.async false
set_option linter.all false
set_option maxRecDepth 100000
set_option maxHeartbeats 1000000
namespace PF
open PySem PySem.Spec PyProof.Rows L2
/-! ### laid aside, and seen to stay as it is -/
theorem Good.asideP {g : Gv} {H F Gx : Hp} {A B : List (V × O)} (h : Good g H F Gx (A ++ B)) : ∃ Gx' SB, RepL g H F B SB ∧ (∀ a, SB a → Gx' a = H a) ∧ Good g H F Gx' A ∧ ∀ H' F' A', Le F F' → Good g H' F' Gx' A' → Good g H' F' Gx (A' ++ B) := by
  classical
  obtain ⟨S, hT, hF, hG, hFG, hS, hL⟩ := h.ex
  obtain ⟨SA, SB, sp, rA, rB⟩ := RepL.split g A B S hL
  refine ⟨fun a => if SB a then H a else Gx a, SB, rB, fun a h => if_pos h, ⟨SA, fun p hp => ?_, hF, fun a o e => ?_, fun a o e => ?_, fun a h => ?_, rA⟩, fun H' F' A' hFF h' => ?_⟩
  · obtain ⟨t1, t2, t3, t4⟩ := hT p hp
    exact ⟨t1, by show (if SB p.1 then H p.1 else Gx p.1) = none; rw [if_neg (fun z => t3 (sp.r _ z))]; exact t2, fun z => t3 (sp.l _ z), t4⟩
  · by_cases hb : SB a
    · simpa [hb] using e
    · simp only [hb, if_false] at e; exact hG a o e
  · by_cases hb : SB a
    · exact (hS a (sp.r a hb)).1
    · simp only [hb, if_false] at e; exact hFG a o e
  · have nb : ¬ SB a := fun q => sp.d a h q
    simp only [nb, if_false]
    exact hS a (sp.l a h)
  · obtain ⟨S', hT', hF', hG', hFG', hS', hL'⟩ := h'.ex
    have key : ∀ a, SB a → H' a = H a ∧ F' a = none := fun a hb => by
      obtain ⟨_, _, o, ho⟩ := hS a (sp.r a hb)
      have q : (if SB a then H a else Gx a) = some o := by rw [if_pos hb]; exact ho
      exact ⟨(hG' a o q).trans ho.symm, hFG' a o q⟩
    have nb : ∀ a, S' a → ¬ SB a := fun a h hb => by
      obtain ⟨_, _, o, ho⟩ := hS a (sp.r a hb)
      have q := (hS' a h).2.1
      rw [if_pos hb, ho] at q
      cases q
    refine ⟨fun a => S' a ∨ SB a, fun p hp => ?_, hF', fun a o e => ?_, fun a o e => ?_, fun a h => ?_, ?_⟩
    · obtain ⟨t1, t2, t3, t4⟩ := hT' p hp
      obtain ⟨u1, u2, u3, u4⟩ := hT p hp
      exact ⟨t1, u2, fun z => z.elim t3 fun z => u3 (sp.r _ z), t4⟩
    · by_cases hb : SB a
      · rw [(hS a (sp.r a hb)).2.1] at e; cases e
      · exact hG' a o (by show (if SB a then H a else Gx a) = some o; rw [if_neg hb]; exact e)
    · by_cases hb : SB a
      · exact (key a hb).2
      · exact hFG' a o (by rw [if_neg hb]; exact e)
    · rcases h with h | h
      · obtain ⟨x, y, z⟩ := hS' a h
        rw [if_neg (nb a h)] at y
        exact ⟨x, y, z⟩
      · obtain ⟨x, y, z⟩ := hS a (sp.r a h)
        obtain ⟨k1, k2⟩ := key a h
        exact ⟨k2, y, by rw [k1]; exact z⟩
    · exact RepL.join g A' B _ S' SB ⟨fun a h => .inl h, fun a h => .inr h, fun a h1 h2 => nb a h1 h2⟩ hL' (RepL.frame g hFF B SB SB (fun _ h => h) (fun a h => (key a h).1) rB)
theorem StG.asideP {g : Gv} {H F Gx : Hp} {σ : L2.St} {ρ : Sls} {L : List (V × O)} (h : StG g H F Gx σ ρ L) : ∃ Gx' SB, RepL g H F L SB ∧ (∀ a, SB a → Gx' a = H a) ∧ StG g H F Gx' σ ρ [] ∧ ∀ H' F' ρ' L', Le F F' → StG g H' F' Gx' σ ρ' L' → StG g H' F' Gx σ ρ' (L ++ L') := by
  obtain ⟨Gx', SB, rB, hB, q, back⟩ := Good.asideP (A := slL σ ρ) (B := L) (h.gd.perm List.perm_append_comm)
  refine ⟨Gx', SB, rB, hB, ⟨h.wf, h.len, q⟩, fun H' F' ρ' L' le q' => ⟨q'.wf, q'.len, ?_⟩⟩
  have z := back H' F' _ le q'.gd
  refine z.perm ?_
  rw [List.append_assoc, List.append_assoc]
  exact (List.perm_append_comm.append_left L').trans (by rw [← List.append_assoc, ← List.append_assoc]; exact List.perm_append_comm.append_right _)
/-- what was laid aside stands as it stood -/
theorem StG.stays {g : Gv} {H H' F' Gx' : Hp} {σ : L2.St} {ρ' : Sls} {L' : List (V × O)} {SB : Addr → Prop} (hB : ∀ a, SB a → Gx' a = H a) (st : StG g H' F' Gx' σ ρ' L') {a : Addr} {u : HO} (ha : SB a) (e : H a = some u) : H' a = some u :=
  st.gd.leG a u ((hB a ha).trans e)
end PF

set_option Elab.async false
set_option linter.all false
set_option maxRecDepth 100000
set_option maxHeartbeats 1000000
namespace PF
open PySem PySem.Spec PyProof.Rows L2
/-! ### xs[j][k] = v -/
def row2 (o k : O) : Option (List O × Nat × List O) := match o, k with
  | .lst os, .val (.int n) => (ixN os.length n).bind fun j => match os[j]? with
    | some (.lst xs) => some (os, j, xs)
    | _ => none
  | _, _ => none
def sto2 (p : List O × Nat × List O) (k v : O) : Option O := match k with
  | .val (.int m) => (ixN p.2.2.length m).map fun q => .lst (p.1.set p.2.1 (.lst (p.2.2.set q v)))
  | _ => none
def sub2T (i : Nat) (fk1 fk2 : M O) : O → M Unit := fun v => (pk i).bind fun _ => fk1.bind fun k1 => (mv i).bind fun o => (M.of (row2 o k1)).bind fun p => fk2.bind fun k2 => (M.of (sto2 p k2 v)).bind fun o' => bk i o'
theorem row2_some {o k : O} {p : List O × Nat × List O} (h : row2 o k = some p) : ∃ n, o = .lst p.1 ∧ k = .val (.int n) ∧ ixN p.1.length n = some p.2.1 ∧ p.1[p.2.1]? = some (.lst p.2.2) := by
  unfold row2 at h
  split at h
  · rename_i os n
    obtain ⟨j, hj, h⟩ := Option.bind_eq_some_iff.mp h
    split at h
    · rename_i xs hx
      cases h
      exact ⟨n, rfl, rfl, hj, hx⟩
    · cases h
  · cases h
section
variable {g : Gv} {W : WX} {pn : List Nat} {β : Type}
theorem Rs.mv {i : Nat} {k : O → M β} {σ : L2.St} {F Gx : Hp} {ρ : Sls} {R : β → Hp → Hp → L2.St → Sls → Prop} (h : Rs g W pn ((PF.mv i).bind k) σ F Gx ρ R) : ∃ o, ρ[i]? = some (some o) ∧ Rs g W pn (k o) σ F Gx (ρ.set i none) R := by
  obtain ⟨r, ρ', e⟩ := h.run
  cases q : ρ[i]? with
  | none => simp [M.bind, PF.mv, q] at e
  | some s =>
    cases s with
    | none => simp [M.bind, PF.mv, q] at e
    | some o => exact ⟨o, rfl, h.bind.ok (a := o) (ρ' := ρ.set i none) (by simp [PF.mv, q]) F F σ (Le.refl F) (Pin.refl σ)⟩
theorem Rs.bk {i : Nat} {o : O} {σ : L2.St} {F Gx : Hp} {ρ : Sls} {R : Unit → Hp → Hp → L2.St → Sls → Prop} (h : Rs g W pn (PF.bk i o) σ F Gx ρ R) : ρ[i]? = some none ∧ ∀ H' F' σ', Le F F' → Pin pn σ σ' → R () H' F' σ' (ρ.set i (some o)) := by
  obtain ⟨r, ρ', e⟩ := h.run
  unfold PF.bk at e
  split at e
  · rename_i q
    exact ⟨q, h.ok (by simp [PF.bk, q])⟩
  · cases e
end
section
variable {W : WX} {pn : List Nat} {X : Cx} {ca : Ca} {a b1 b2 : Expr} {fk1 fk2 : M O} {pos p1 : Pos}
theorem g_sub2 (i : Nat) (ha : PE X a (tVar i)) (hb1 : PE X b1 (T (gv X ca) W fk1)) (hb2 : PE X b2 (T (gv X ca) W fk2)) (hs1 : PlainIx b1 := by exact fun _ _ => rfl)
    (hass : ∀ v, assign (.Subscript (.Subscript a b1 p1) b2 pos) X.env v = (do
      let ov ← holding [v] (eval (.Subscript a b1 p1) X.env)
      let iv ← holding [v, ov] (eval b2 X.env)
      standAt pos
      holding [v, ov, iv] (setItem ov iv v)
      release [v, ov, iv] []) := by intro _; rfl) : PG X (.Subscript (.Subscript a b1 p1) b2 pos) (Tg (gv X ca) W pn (sub2T i fk1 fk2)) :=
  PG.imp (pg_sub (pe_ix ix_list ha hb1 hs1) hb2 set_list hass) fun v σ H Q ⟨F, Gx, ρ, o, st, r⟩ => by
    obtain ⟨o0, h0, r⟩ := r.pk
    obtain ⟨x, hx⟩ := st.wf i o0 h0
    obtain ⟨Gx', st1, back⟩ := st.aside
    refine ⟨x, hx, F, Gx', ρ, st1, (Rn.aside (r.expr (H := H)) fun H' F' ρ' le q => (back H' F' ρ' [] le q).drop1).mono fun k1 H1 F1 ρ1 le1 r1 kv st2 => ?_⟩
    have st3 := back H1 F1 ρ1 _ le1 st2
    obtain ⟨o1, h1, r2⟩ := Rs.mv r1
    obtain ⟨x', hx', st4⟩ := st3.take h1
    rw [hx] at hx'; cases hx'
    obtain ⟨⟨os, j, xs⟩, ej, r3⟩ := (r2.expr (H := H1)).of
    obtain ⟨n, rfl, rfl, hj, hxs⟩ := row2_some ej
    simp only at hj hxs
    have ekv : kv = .int n := by
      have z := (st4.perm (L' := [(kv, .val (.int n)), (x, .lst os), (v, o)]) (List.perm_append_comm (l₁ := [(x, O.lst os), (v, o)]) (l₂ := [(kv, O.val (.int n))]))).gd.val
      rw [RepV] at z; exact z
    subst ekv
    obtain ⟨Gx2, SB, rB, hB, st5, back2⟩ := st4.asideP
    obtain ⟨S1, S2, sp, ro, _⟩ := rB
    simp only at ro
    rw [RepO] at ro
    obtain ⟨p, vs, rfl, sa, hH, rs⟩ := ro
    obtain ⟨w, T1, hw, hsub, ro3, _⟩ := RepOs.sub rs hxs
    rw [RepO] at ro3
    obtain ⟨l, ws, rfl, sl, hl, _⟩ := ro3
    have hlen : vs.length = os.length := rs.length
    refine ⟨p, vs, n, .ref l, rfl, rfl, SqL.of hH, by unfold L2.atI; rw [hlen, hj]; exact hw, F1, Gx2, ρ1.set i none, st5, (Rn.aside ((r3 H1 F1 (Le.refl _)).expr (H := H1)) fun H' F' ρ' le q => (back2 H' F' ρ' [] le q).drop1.drop1.drop1).mono fun k2 H2 F2 ρ2 le2 r4 kv2 st6 => ?_⟩
    have st7 := back2 H2 F2 ρ2 _ le2 st6
    have hHp : H2 p = some (.lst vs) := StG.stays hB st6 (sp.l p sa) hH
    have hHl : H2 l = some (.lst ws) := StG.stays hB st6 (sp.l l (hsub l sl).1) hl
    obtain ⟨o', eo, r5⟩ := (r4.expr (H := H2)).of
    unfold sto2 at eo
    split at eo
    · rename_i m
      obtain ⟨q, hq, rfl⟩ := Option.map_eq_some_iff.mp eo
      simp only at hq
      have ekv2 : kv2 = .int m := by
        have z := st6.gd.val (B := slL σ ρ2)
        rw [RepV] at z; exact z
      subst ekv2
      obtain ⟨hi, fin⟩ := Rs.bk (r5 H2 F2 (Le.refl _))
      have hil : i < ρ2.length := (List.getElem?_eq_some_iff.mp hi).1
      have st8 : StG (gv X ca) H2 F2 Gx σ (ρ2.set i (some (.lst os))) [(v, o), (.int n, .val (.int n)), (.int m, .val (.int m))] := st7.putback hx hi
      have st9 : StG (gv X ca) H2 F2 Gx σ (ρ2.set i (some (.lst os))) ([(v, o)] ++ []) := (st8.perm (L' := [(.int n, .val (.int n)), (.int m, .val (.int m)), (v, o)]) (List.perm_append_comm (l₁ := [(v, o)]) (l₂ := [(.int n, .val (.int n)), (.int m, .val (.int m))]))).drop1.drop1
      obtain ⟨S1', SA, rr, rA, dd, wr⟩ := StG.wrN (o := .lst os) (A := [(v, o)]) (L := []) st9 (by simp [hil]) hx
      rw [RepO] at rr
      obtain ⟨p', vs', e1, sa', hH', rs'⟩ := rr
      cases e1
      rw [hHp] at hH'; cases hH'
      obtain ⟨w', T', hw', hsub', ro', put⟩ := RepOs.sub rs' hxs
      rw [hw] at hw'; cases hw'
      rw [RepO] at ro'
      obtain ⟨l', ws', e2, sl', hl', rws'⟩ := ro'
      cases e2
      rw [hHl] at hl'; cases hl'
      have hwl : ws.length = xs.length := rws'.length
      have hSl := hsub' l sl'
      have rset := RepOs.set q rws' (RepL.one rA) fun b h1 h2 => dd b (hsub' b h1.1).1 h2
      have rol : RepO (gv X ca) (upd H2 l (.lst (ws.set q v))) F2 (.lst (xs.set q o)) (.ref l) (fun b => T' b ∨ SA b) := by
        rw [RepO]
        exact ⟨l, ws.set q v, rfl, .inl sl', upd_same, RepOs.wrote rset sl' fun b h1 h2 => dd b (hsub' b h1).1 h2⟩
      have ro5 := put l (.lst (ws.set q v)) (.lst (xs.set q o)) SA sl' (fun b h1 h2 => dd b h1.1 h2) rol
      have st10 := wr (.lst (os.set j (.lst (xs.set q o)))) l (.lst (ws.set q v)) hSl.1 (by
        rw [RepO]
        exact ⟨p, vs, rfl, .inl sa', by rw [upd_ne (Ne.symm hSl.2)]; exact hHp, RepOs.sup _ (fun b hb => hb.elim (fun hb => ⟨.inl hb.1, hb.2⟩) (fun hb => ⟨.inr hb, fun e => dd p sa' (by rw [← e]; exact hb)⟩)) ro5⟩)
      rw [List.set_set] at st10
      exact ⟨l, ws, m, q, rfl, rfl, hHl, by rw [hwl]; exact hq, fin _ F2 σ (Le.refl _) (Pin.refl _) st10⟩
    · cases eo
end
end PF

set_option Elab.async false
set_option linter.all false
set_option maxRecDepth 100000
set_option maxHeartbeats 1000000
namespace PF
open PySem PySem.Spec PyProof.Rows L2
theorem get_list {X : Cx} : PGet X (rIxL X.K) := by
  intro pins s σ H x y v u Q I rx ry h
  obtain ⟨p, xs, i, z, rfl, rfl, hq, he, q⟩ := h
  cases rx
  obtain ⟨t, rfl⟩ := ry
  obtain ⟨its, r, pl, hz⟩ := I.list hq
  obtain ⟨j, h1, h2, h3, h4, h5⟩ := atI_get he
  obtain ⟨w, ew, rw'⟩ := r.get h2
  have hl := r.length
  have hn := line63
  have fin : EP X pins σ Q w s := ⟨z, H, I, rw', q⟩
  by_cases h0 : 0 ≤ i
  · have hj : i.toNat = j := by
      rw [seqIndex_of h0 h5] at h1
      exact Option.some.inj h1
    exact wpAny_getItem_list pl.isList h0 (by omega) (by rw [hj]; simpa using ew) fin
  · have hj : (i + (its.toArray.size : Int)).toNat = j := by
      rw [seqIndex_neg (by omega) h4] at h1
      rw [List.size_toArray, ← hl]
      exact Option.some.inj h1
    exact wpAny_getItem_list_neg pl.isList (by omega) (by rw [List.size_toArray] <;> omega) (by omega) (by rw [hj]; simpa using ew) fin
/-! ### xs[j][k] += c -/
def aug2 (p : List O × Nat × List O) (k : O) (c : Int) : Option O := match k with
  | .val (.int m) => (ixN p.2.2.length m).bind fun q => match p.2.2[q]? with
    | some (.val (.int z)) => some (.lst (p.1.set p.2.1 (.lst (p.2.2.set q (.val (.int (z + c)))))))
    | _ => none
  | _ => none
def aug2S (i : Nat) (fk1 fk2 : M O) (c : Int) : M Out := (pk i).bind fun _ => fk1.bind fun k1 => (mv i).bind fun o => (M.of (row2 o k1)).bind fun p => fk2.bind fun k2 => (M.of (aug2 p k2 c)).bind fun o' => (bk i o').bind fun _ => M.pure .nx
section
variable {W : WX} {pn : List Nat} {X : Cx} {ca : Ca} {a b1 b2 e : Expr} {fk1 fk2 : M O} {pos p1 tpos : Pos} {c : Int}
theorem s_aug2 (i : Nat) (ha : PE X a (tVar i)) (hb1 : PE X b1 (T (gv X ca) W fk1)) (hb2 : PE X b2 (T (gv X ca) W fk2)) (he : PE X e (tC (.int c))) (hs1 : PlainIx b1 := by exact fun _ _ => rfl)
    (hass : ∀ ov iv new, augStore b2 ov iv new = (do holding [new, ov, iv] (setItem ov iv new); release [new, ov, iv] []; pure .next) := by intros; rfl) :
    PS X (.AugAssign (.Subscript (.Subscript a b1 p1) b2 tpos) .Add e pos) (Ts (gv X ca) W pn (aug2S i fk1 fk2 c)) :=
  PS.imp (ps_augS (pe_ix ix_list ha hb1 hs1) hb2 get_list he ip_add set_list hass) fun D σ H ⟨F, Gx, ρ, st, r⟩ => by
    obtain ⟨o0, h0, r⟩ := r.pk
    obtain ⟨x, hx⟩ := st.wf i o0 h0
    refine ⟨x, hx, F, Gx, ρ, st, (r.expr (H := H)).mono fun k1 H1 F1 ρ1 le1 r1 kv st3 => ?_⟩
    obtain ⟨o1, h1, r2⟩ := Rs.mv r1
    obtain ⟨x', hx', st4⟩ := st3.take h1
    rw [hx] at hx'; cases hx'
    obtain ⟨⟨os, j, xs⟩, ej, r3⟩ := (r2.expr (H := H1)).of
    obtain ⟨n, rfl, rfl, hj, hxs⟩ := row2_some ej
    simp only at hj hxs
    have ekv : kv = .int n := by
      have z := (st4.perm (L' := [(kv, .val (.int n)), (x, .lst os)]) (.swap _ _ _)).gd.val
      rw [RepV] at z; exact z
    subst ekv
    obtain ⟨Gx2, SB, rB, hB, st5, back2⟩ := st4.asideP
    obtain ⟨S1, S2, sp, ro, _⟩ := rB
    simp only at ro
    rw [RepO] at ro
    obtain ⟨p, vs, rfl, sa, hH, rs⟩ := ro
    obtain ⟨w, T1, hw, hsub, ro3, _⟩ := RepOs.sub rs hxs
    rw [RepO] at ro3
    obtain ⟨l, ws, rfl, sl, hl, _⟩ := ro3
    have hlen : vs.length = os.length := rs.length
    refine ⟨p, vs, n, .ref l, rfl, rfl, SqL.of hH, by unfold L2.atI; rw [hlen, hj]; exact hw, F1, Gx2, ρ1.set i none, st5, (Rn.aside ((r3 H1 F1 (Le.refl _)).expr (H := H1)) fun H' F' ρ' le q => (back2 H' F' ρ' [] le q).drop1.drop1).mono fun k2 H2 F2 ρ2 le2 r4 kv2 st6 => ?_⟩
    have st7 := back2 H2 F2 ρ2 _ le2 st6
    have hHp : H2 p = some (.lst vs) := StG.stays hB st6 (sp.l p sa) hH
    have hHl : H2 l = some (.lst ws) := StG.stays hB st6 (sp.l l (hsub l sl).1) hl
    obtain ⟨o', eo, r5⟩ := (r4.expr (H := H2)).of
    unfold aug2 at eo
    split at eo
    · rename_i m
      obtain ⟨q, hq, eo⟩ := Option.bind_eq_some_iff.mp eo
      simp only at hq eo
      split at eo
      · rename_i z hz
        cases eo
        have ekv2 : kv2 = .int m := by
          have z := st6.gd.val (B := slL σ ρ2)
          rw [RepV] at z; exact z
        subst ekv2
        obtain ⟨hi, fin⟩ := Rs.bk (r5 H2 F2 (Le.refl _)).bind
        have hil : i < ρ2.length := (List.getElem?_eq_some_iff.mp hi).1
        have st8 : StG (gv X ca) H2 F2 Gx σ (ρ2.set i (some (.lst os))) [(.int n, .val (.int n)), (.int m, .val (.int m))] := st7.putback hx hi
        have st9 : StG (gv X ca) H2 F2 Gx σ (ρ2.set i (some (.lst os))) ([] ++ []) := st8.drop1.drop1
        obtain ⟨S1', SA, rr, rA, dd, wr⟩ := StG.wrN (o := .lst os) (A := []) (L := []) st9 (by simp [hil]) hx
        rw [RepO] at rr
        obtain ⟨p', vs', e1, sa', hH', rs'⟩ := rr
        cases e1
        rw [hHp] at hH'; cases hH'
        obtain ⟨w', T', hw', hsub', ro', put⟩ := RepOs.sub rs' hxs
        rw [hw] at hw'; cases hw'
        rw [RepO] at ro'
        obtain ⟨l', ws', e2, sl', hl', rws'⟩ := ro'
        cases e2
        rw [hHl] at hl'; cases hl'
        have hwl : ws.length = xs.length := rws'.length
        obtain ⟨wz, _, hwz, _, roz, _⟩ := RepOs.sub rws' hz
        rw [RepO, RepV] at roz
        subst roz
        have hSl := hsub' l sl'
        have rset := RepOs.set (T := fun _ => False) (o := .val (.int (z + c))) (v := .int (z + c)) q rws' (by rw [RepO, RepV]) fun b _ h2 => h2.elim
        have rol : RepO (gv X ca) (upd H2 l (.lst (ws.set q (.int (z + c))))) F2 (.lst (xs.set q (.val (.int (z + c))))) (.ref l) (fun b => T' b ∨ False) := by
          rw [RepO]
          exact ⟨l, ws.set q (.int (z + c)), rfl, .inl sl', upd_same, RepOs.wrote rset sl' fun b _ h2 => h2⟩
        have ro5 := put l (.lst (ws.set q (.int (z + c)))) (.lst (xs.set q (.val (.int (z + c))))) (fun _ => False) sl' (fun b _ h2 => h2) rol
        have st10 := wr (.lst (os.set j (.lst (xs.set q (.val (.int (z + c))))))) l (.lst (ws.set q (.int (z + c)))) hSl.1 (by
          rw [RepO]
          exact ⟨p, vs, rfl, .inl sa', by rw [upd_ne (Ne.symm hSl.2)]; exact hHp, RepOs.sup _ (fun b hb => hb.elim (fun hb => ⟨.inl hb.1, hb.2⟩) (fun hb => hb.elim)) ro5⟩)
        rw [List.set_set] at st10
        refine ⟨l, ws, m, .int z, rfl, rfl, SqL.of hHl, by unfold L2.atI; rw [hwl, hq]; exact hwz, z, c, rfl, rfl, l, ws, m, q, rfl, rfl, hHl, by rw [hwl]; exact hq, ?_⟩
        exact (fin H2 F2 σ (Le.refl _) (Pin.refl _)).pure _ F2 σ (Le.refl _) (Pin.refl _) st10
      · cases eo
    · cases eo
end
end PF

set_option Elab.async false
set_option linter.all false
set_option maxRecDepth 100000
set_option maxHeartbeats 1000000
namespace PF
open PySem PySem.Spec PyProof.Rows L2
/-! ### what is handed on, frozen -/
def frzM (f : M O) : M O := f.bind fun o => M.pure (.val (fz o))
section
variable {g : Gv} {W : WX} {X : Cx} {e : Expr} {f : M O}
theorem e_frz (he : PE X e (T g W f)) : PE X e (T g W (frzM f)) :=
  PE.imp he fun σ H Q ⟨F, Gx, ρ, st, r⟩ => ⟨F, Gx, ρ, st, r.bind.mono fun o H1 F1 ρ1 le r1 v st1 => by
    obtain ⟨F2, le2, st2⟩ := st1.freeze
    exact r1.pure H1 F2 le2 v st2⟩
end
end PF

set_option Elab.async false
set_option linter.all false
set_option maxRecDepth 100000
set_option maxHeartbeats 1000000
namespace PF
open PySem PySem.Spec PyProof.Rows L2
/-! ### own classes -/
/-- a class whose instances may be made -/
structure OwnI (P : Program) (w : World) (K : PySem.W.Frag) (mg : Str → Option Value) (base : Heap) (ca : Ca) (C k : Nat) (x : Str) (ps : List Str) (ms : List Bool) (sem : M O) : Prop where
  ex : ∃ f fd, mg x = some (.ref (ca C)) ∧ Mk K (ca C) f ∧ Binds K fd ps [] ∧ FnOk P w K mg base (L2.CX P w) k f fd ps (spOf ⟨P, w, K, ca⟩ (true :: ms) sem)
/-- a method that may be called -/
structure OwnM (P : Program) (w : World) (K : PySem.W.Frag) (mg : Str → Option Value) (base : Heap) (ca : Ca) (C k : Nat) (m : Str) (ps : List Str) (ms : List Bool) (sem : M O) : Prop where
  ex : ∃ f fd, Cls K (ca C) ∧ Meth K (ca C) m f ∧ Binds K fd ps [] ∧ FnOk P w K mg base (L2.CX P w) k f fd ps (spOf ⟨P, w, K, ca⟩ ms sem)
section
variable {W : WX} {X : Cx} {ca : Ca} {C k j : Nat} {x m : Str} {ps : List Str} {ms : List Bool} {sem : M O} {p pos apos : Pos} {e o : Expr} {es : List Expr} {ks : List (Option Nat)} {fs : M (List O)} {fo : M O}
theorem e_ownI (Ow : OwnI X.prog X.w X.K X.mg X.base ca C k x ps ms sem) (hr : Room j X.A) (hj : k + 1 ≤ j) (tk : Takes X W) (hms : ms.length = (e :: es).length) (hfs : LenA fs (e :: es).length) (ha : PA X (e :: es) (TL (gv X ca) W fs)) (hg : Gl X x := by rfl)
    (hdb : (x == ("__debug__" : Str)) = false := by decide) (he : starEach (e :: es) X.env = (false, eval e X.env) :: starEach es X.env := by rfl) (hpl : (backTo pos (starEach es X.env)).any (·.1) = false := by rfl) :
    PE X (.Call (.Name x p) (e :: es) [] pos) (T (gv X ca) W (makeF C fs sem)) := by
  obtain ⟨f, fd, hm, M, hb, Fo⟩ := Ow.ex
  exact e_make M Fo (hr.mono hj) hg hm hb tk hms hfs ha hdb he hpl
theorem e_ownM {pl : Sem Bool} (Ow : OwnM X.prog X.w X.K X.mg X.base ca C k m ps (false :: ms) sem) (hr : Room j X.A) (hj : k ≤ j) (tk : Takes X W) (hms : ms.length = ks.length) (he : PE X o (T (gv X ca) W fo)) (ha : PA X (e :: es) (TLm (gv X ca) W ks fs))
    (hst : starEach (e :: es) X.env = (false, eval e X.env) :: starEach es X.env := by rfl) (hpl : (backTo pos (starEach es X.env)).any (·.1) = false := by rfl)
    (ht : eval (.Call (.Attribute o m apos) (e :: es) [] pos) X.env = (do
      let ov ← eval o X.env
      standAt apos.atName
      let (f, first) ← holding [ov] (getMethod ov m pl)
      callWith pos f first (backTo pos (starEach (e :: es) X.env)) (backToKw pos (keywordEach [] X.env))) := by rfl) :
    PE X (.Call (.Attribute o m apos) (e :: es) [] pos) (T (gv X ca) W (callF (none :: ks) (consA (chkM C m fo) fs) (false :: ms) sem)) := by
  obtain ⟨f, fd, hC, hM, hb, Fo⟩ := Ow.ex
  exact e_meth hC hM Fo (hr.mono hj) hb tk hms he ha hst hpl ht
end
end PF

set_option Elab.async false
set_option linter.all false
set_option maxRecDepth 100000
set_option maxHeartbeats 1000000
namespace PF
open PySem PySem.Spec PyProof.Rows L2
/-! ### xs[j][k], of an owned list of owned lists -/
def get2 (p : List O × Nat × List O) (k : O) : Option O := match k with
  | .val (.int m) => (ixN p.2.2.length m).bind fun q => match p.2.2[q]? with
    | some (.val d) => some (.val d)
    | _ => none
  | _ => none
def ix2F (i : Nat) (fk1 fk2 : M O) : M O := (pk i).bind fun _ => fk1.bind fun k1 => (mv i).bind fun o => (M.of (row2 o k1)).bind fun p => fk2.bind fun k2 => (M.of (get2 p k2)).bind fun v => (bk i o).bind fun _ => M.pure v
section
variable {g : Gv} {W : WX} {β : Type}
theorem Rn.mv {i : Nat} {k : O → M β} {σ : L2.St} {H F Gx : Hp} {ρ : Sls} {R : β → Hp → Hp → Sls → Prop} (h : Rn g W ((PF.mv i).bind k) σ H F Gx ρ R) : ∃ o, ρ[i]? = some (some o) ∧ Rn g W (k o) σ H F Gx (ρ.set i none) R := by
  obtain ⟨r, ρ', e⟩ := h.run
  cases q : ρ[i]? with
  | none => simp [M.bind, PF.mv, q] at e
  | some s =>
    cases s with
    | none => simp [M.bind, PF.mv, q] at e
    | some o => exact ⟨o, rfl, h.bind.ok (a := o) (ρ' := ρ.set i none) (by simp [PF.mv, q]) H F (Le.refl F)⟩
theorem Rn.bk {i : Nat} {o : O} {σ : L2.St} {H F Gx : Hp} {ρ : Sls} {R : Unit → Hp → Hp → Sls → Prop} (h : Rn g W (PF.bk i o) σ H F Gx ρ R) : ρ[i]? = some none ∧ ∀ H' F', Le F F' → R () H' F' (ρ.set i (some o)) := by
  obtain ⟨r, ρ', e⟩ := h.run
  unfold PF.bk at e
  split at e
  · rename_i q
    exact ⟨q, h.ok (by simp [PF.bk, q])⟩
  · cases e
end
section
variable {W : WX} {X : Cx} {ca : Ca} {a b1 b2 : Expr} {fk1 fk2 : M O} {pos p1 : Pos}
theorem e_ix2 (i : Nat) (ha : PE X a (tVar i)) (hb1 : PE X b1 (T (gv X ca) W fk1)) (hb2 : PE X b2 (T (gv X ca) W fk2)) (hs1 : PlainIx b1 := by exact fun _ _ => rfl) (hs2 : PlainIx b2 := by exact fun _ _ => rfl) :
    PE X (.Subscript (.Subscript a b1 p1) b2 pos) (T (gv X ca) W (ix2F i fk1 fk2)) :=
  PE.imp (pe_ix ix_list (pe_ix ix_list ha hb1 hs1) hb2 hs2) fun σ H Q ⟨F, Gx, ρ, st, r⟩ => by
    obtain ⟨o0, h0, r⟩ := r.pk
    obtain ⟨x, hx⟩ := st.wf i o0 h0
    refine ⟨x, hx, F, Gx, ρ, st, r.bind.mono fun k1 H1 F1 ρ1 le1 r1 kv st3 => ?_⟩
    obtain ⟨o1, h1, r2⟩ := Rn.mv r1
    obtain ⟨x', hx', st4⟩ := st3.take h1
    rw [hx] at hx'; cases hx'
    obtain ⟨⟨os, j, xs⟩, ej, r3⟩ := r2.bind.of
    obtain ⟨n, rfl, rfl, hj, hxs⟩ := row2_some ej
    simp only at hj hxs
    have ekv : kv = .int n := by
      have z := (st4.perm (L' := [(kv, .val (.int n)), (x, .lst os)]) (.swap _ _ _)).gd.val
      rw [RepV] at z; exact z
    subst ekv
    obtain ⟨Gx2, SB, rB, hB, st5, back2⟩ := st4.asideP
    obtain ⟨S1, S2, sp, ro, _⟩ := rB
    simp only at ro
    rw [RepO] at ro
    obtain ⟨p, vs, rfl, sa, hH, rs⟩ := ro
    obtain ⟨w, T1, hw, hsub, ro3, _⟩ := RepOs.sub rs hxs
    rw [RepO] at ro3
    obtain ⟨l, ws, rfl, sl, hl, rws⟩ := ro3
    have hlen : vs.length = os.length := rs.length
    refine ⟨p, vs, n, .ref l, rfl, rfl, SqL.of hH, by unfold L2.atI; rw [hlen, hj]; exact hw, F1, Gx2, ρ1.set i none, st5, (Rn.aside (r3 H1 F1 (Le.refl _)) fun H' F' ρ' le q => (back2 H' F' ρ' [] le q).drop1.drop1).bind.mono fun k2 H2 F2 ρ2 le2 r4 kv2 st6 => ?_⟩
    have st7 := back2 H2 F2 ρ2 _ le2 st6
    have hHl : H2 l = some (.lst ws) := StG.stays hB st6 (sp.l l (hsub l sl).1) hl
    obtain ⟨o', eo, r5⟩ := r4.bind.of
    unfold get2 at eo
    split at eo
    · rename_i m
      obtain ⟨q, hq, eo⟩ := Option.bind_eq_some_iff.mp eo
      simp only at hq eo
      split at eo
      · rename_i d hz
        cases eo
        have ekv2 : kv2 = .int m := by
          have z := st6.gd.val (B := slL σ ρ2)
          rw [RepV] at z; exact z
        subst ekv2
        obtain ⟨hi, fin⟩ := Rn.bk (r5 H2 F2 (Le.refl _)).bind
        have hil : i < ρ2.length := (List.getElem?_eq_some_iff.mp hi).1
        have st8 : StG (gv X ca) H2 F2 Gx σ (ρ2.set i (some (.lst os))) [(.int n, .val (.int n)), (.int m, .val (.int m))] := st7.putback hx hi
        have st9 : StG (gv X ca) H2 F2 Gx σ (ρ2.set i (some (.lst os))) [] := st8.drop1.drop1
        have hwl : ws.length = xs.length := rws.length
        obtain ⟨wz, _, hwz, _, roz, _⟩ := RepOs.sub rws hz
        rw [RepO] at roz
        have rv2 : RepV (gv X ca) F2 d wz := RepV.mono _ le2 d wz roz
        exact ⟨l, ws, m, wz, rfl, rfl, SqL.of hHl, by unfold L2.atI; rw [hwl, hq]; exact hwz, (fin H2 F2 (Le.refl _)).pure H2 F2 (Le.refl _) wz (st9.ofVal rv2)⟩
      · cases eo
    · cases eo
end
end PF

set_option Elab.async false
set_option linter.all false
set_option maxRecDepth 100000
set_option maxHeartbeats 1000000
namespace PF
open PySem PySem.Spec PyProof.Rows L2
/-! ### a block within a block: what is asked, by running it -/
def blkB (N : List Str) (sc scope : Scope) (own : List (Str × Nat)) : Bool :=
  (match scope.kind with | .function => true | _ => false) && (scope.names.all fun y => decide (scope.names.lookup y.1 = some y.2)) && (own.all fun p => decide (N[p.2]? = some p.1)) &&
  (scope.names.all fun y => match y.2 with
    | .free => (match sc.names.lookup y.1 with
      | some .cell => true
      | some .free => true
      | _ => false)
    | _ => true) &&
  (scope.names.all fun y => match y.2 with
    | .local => decide (y.1 ∈ own.map (·.1) ∨ y.1 ∉ N)
    | .cell => decide (y.1 ∈ own.map (·.1) ∨ y.1 ∉ N)
    | _ => true)
theorem blk_by {N : List Str} {sc scope : Scope} {own : List (Str × Nat)} (h : blkB N sc scope own = true) : BlkOk N sc scope own := by
  unfold blkB at h
  rw [Bool.and_eq_true, Bool.and_eq_true, Bool.and_eq_true, Bool.and_eq_true, List.all_eq_true, List.all_eq_true, List.all_eq_true, List.all_eq_true] at h
  obtain ⟨⟨⟨⟨h1, h2⟩, h3⟩, h4⟩, h5⟩ := h
  refine ⟨?_, fun y hy => by simpa using h2 y hy, fun p hp => by simpa using h3 p hp, fun y hy e => ?_, fun y hy e => ?_⟩
  · cases k : scope.kind <;> rw [k] at h1 <;> first | rfl | cases h1
  · have q := h4 y hy
    rw [e] at q
    simp only at q
    split at q
    · rename_i z; exact .inl z
    · rename_i z; exact .inr z
    · cases q
  · have q := h5 y hy
    rcases e with e | e <;> rw [e] at q <;> simpa using q
end PF

set_option Elab.async false
set_option linter.all false
set_option maxRecDepth 100000
set_option maxHeartbeats 1000000
namespace PF
open PySem PySem.Spec PyProof.Rows L2
/-! ### the calculus for classes, nested lists -/
section
variable {ρ : Sls}
theorem ev_make {C : Nat} {fs : M (List O)} {sem : M O} {R : O → Sls → Prop} : Ev (makeF C fs sem) ρ R ↔ Ev fs ρ fun os ρ1 => Ev sem (some (.ins C [] []) :: os.map some) fun o c => o = .val .non ∧ ∃ o1 c', c = some o1 :: c' ∧ R o1 ρ1 := by
  unfold makeF
  refine Iff.trans (ev_bind (f := fs)) ?_
  constructor
  · refine fun h => h.mono fun os ρ1 ⟨a, ρ', e, r⟩ => ?_
    simp only at e
    cases q : sem (some (.ins C [] []) :: os.map some) with
    | none => simp [q] at e
    | some p =>
      obtain ⟨rz, c⟩ := p
      simp only [q] at e
      split at e
      · rename_i o1 c' z
        cases e
        cases z
        exact ⟨_, _, q, rfl, _, _, rfl, r⟩
      · cases e
      · cases e
  · refine fun h => h.mono fun os ρ1 ⟨a, c, e, r1, o1, c', r2, r⟩ => ?_
    subst r1 r2
    exact ⟨o1, ρ1, by simp only [e], r⟩
theorem ev_frz {f : M O} {R : O → Sls → Prop} : Ev (frzM f) ρ R ↔ Ev f ρ fun o ρ1 => R (.val (fz o)) ρ1 := by
  unfold frzM
  rw [ev_bind]
  exact ⟨fun h => h.mono fun o ρ1 r => ev_pure.mp r, fun h => h.mono fun o ρ1 r => ev_pure.mpr r⟩
theorem ev_mv0 {i : Nat} {R : O → Sls → Prop} {o : O} (h : ρ[i]? = some (some o)) (q : R o (ρ.set i none)) : Ev (mv i) ρ R := ⟨o, _, by unfold mv; rw [h], q⟩
theorem ev_bk0 {i : Nat} {R : Unit → Sls → Prop} {o : O} (h : ρ[i]? = some none) (q : R () (ρ.set i (some o))) : Ev (bk i o) ρ R := ⟨(), _, by unfold bk; rw [h], q⟩
theorem ev_ix2 {i : Nat} {fk1 fk2 : M O} {R : O → Sls → Prop} (q : ∃ o, ρ[i]? = some (some o) ∧ Ev fk1 ρ fun k1 ρ1 => ∃ o1 p, ρ1[i]? = some (some o1) ∧ row2 o1 k1 = some p ∧ Ev fk2 (ρ1.set i none) fun k2 ρ2 => ∃ z, get2 p k2 = some z ∧ ρ2[i]? = some none ∧ R z (ρ2.set i (some o1))) : Ev (ix2F i fk1 fk2) ρ R := by
  obtain ⟨o, h, q⟩ := q
  unfold ix2F
  refine ev_bind.mpr (ev_pk.mpr ⟨o, h, ev_bind.mpr (q.mono fun k1 ρ1 ⟨o1, p, h1, h2, q⟩ => ?_)⟩)
  refine ev_bind.mpr (ev_mv0 h1 (ev_bind.mpr (ev_of.mpr ⟨p, h2, ev_bind.mpr (q.mono fun k2 ρ2 ⟨z, h3, h4, q⟩ => ?_)⟩)))
  exact ev_bind.mpr (ev_of.mpr ⟨z, h3, ev_bind.mpr (ev_bk0 h4 (ev_pure.mpr q))⟩)
theorem ev_sub2 {i : Nat} {fk1 fk2 : M O} {v : O} {R : Unit → Sls → Prop} (q : ∃ o, ρ[i]? = some (some o) ∧ Ev fk1 ρ fun k1 ρ1 => ∃ o1 p, ρ1[i]? = some (some o1) ∧ row2 o1 k1 = some p ∧ Ev fk2 (ρ1.set i none) fun k2 ρ2 => ∃ o2, sto2 p k2 v = some o2 ∧ ρ2[i]? = some none ∧ R () (ρ2.set i (some o2))) : Ev (sub2T i fk1 fk2 v) ρ R := by
  obtain ⟨o, h, q⟩ := q
  unfold sub2T
  refine ev_bind.mpr (ev_pk.mpr ⟨o, h, ev_bind.mpr (q.mono fun k1 ρ1 ⟨o1, p, h1, h2, q⟩ => ?_)⟩)
  refine ev_bind.mpr (ev_mv0 h1 (ev_bind.mpr (ev_of.mpr ⟨p, h2, ev_bind.mpr (q.mono fun k2 ρ2 ⟨o2, h3, h4, q⟩ => ?_)⟩)))
  exact ev_bind.mpr (ev_of.mpr ⟨o2, h3, ev_bk0 h4 q⟩)
theorem ev_aug2 {i : Nat} {fk1 fk2 : M O} {c : Int} {R : Out → Sls → Prop} (q : ∃ o, ρ[i]? = some (some o) ∧ Ev fk1 ρ fun k1 ρ1 => ∃ o1 p, ρ1[i]? = some (some o1) ∧ row2 o1 k1 = some p ∧ Ev fk2 (ρ1.set i none) fun k2 ρ2 => ∃ o2, aug2 p k2 c = some o2 ∧ ρ2[i]? = some none ∧ R .nx (ρ2.set i (some o2))) : Ev (aug2S i fk1 fk2 c) ρ R := by
  obtain ⟨o, h, q⟩ := q
  unfold aug2S
  refine ev_bind.mpr (ev_pk.mpr ⟨o, h, ev_bind.mpr (q.mono fun k1 ρ1 ⟨o1, p, h1, h2, q⟩ => ?_)⟩)
  refine ev_bind.mpr (ev_mv0 h1 (ev_bind.mpr (ev_of.mpr ⟨p, h2, ev_bind.mpr (q.mono fun k2 ρ2 ⟨o2, h3, h4, q⟩ => ?_)⟩)))
  exact ev_bind.mpr (ev_of.mpr ⟨o2, h3, ev_bind.mpr (ev_bk0 h4 (ev_pure.mpr q))⟩)
end
theorem ev_whileK {fc : M Bool} {fb : M Out} {n : Nat} {ρ : Sls} {R : Out → Sls → Prop} (h : Ev (whileN fc fb n) ρ R) : Ev (whileN fc fb n) ρ R := h
end PF

set_option Elab.async false
set_option linter.all false
set_option maxRecDepth 100000
set_option maxHeartbeats 1000000
namespace PF
open PySem PySem.Spec PyProof.Rows L2
/-! ### the slots, told one by one -/
theorem ev_at1 {α : Type} {f : M α} {ρ : Sls} {R : α → Sls → Prop} {a0 : Option O} (e : ρ = [a0]) (h : Ev f [a0] R) : Ev f ρ R := by subst e; exact h
theorem ev_at2 {α : Type} {f : M α} {ρ : Sls} {R : α → Sls → Prop} {a0 a1 : Option O} (e : ρ = [a0, a1]) (h : Ev f [a0, a1] R) : Ev f ρ R := by subst e; exact h
theorem ev_at3 {α : Type} {f : M α} {ρ : Sls} {R : α → Sls → Prop} {a0 a1 a2 : Option O} (e : ρ = [a0, a1, a2]) (h : Ev f [a0, a1, a2] R) : Ev f ρ R := by subst e; exact h
theorem ev_at4 {α : Type} {f : M α} {ρ : Sls} {R : α → Sls → Prop} {a0 a1 a2 a3 : Option O} (e : ρ = [a0, a1, a2, a3]) (h : Ev f [a0, a1, a2, a3] R) : Ev f ρ R := by subst e; exact h
theorem ev_at5 {α : Type} {f : M α} {ρ : Sls} {R : α → Sls → Prop} {a0 a1 a2 a3 a4 : Option O} (e : ρ = [a0, a1, a2, a3, a4]) (h : Ev f [a0, a1, a2, a3, a4] R) : Ev f ρ R := by subst e; exact h
theorem ev_at6 {α : Type} {f : M α} {ρ : Sls} {R : α → Sls → Prop} {a0 a1 a2 a3 a4 a5 : Option O} (e : ρ = [a0, a1, a2, a3, a4, a5]) (h : Ev f [a0, a1, a2, a3, a4, a5] R) : Ev f ρ R := by subst e; exact h
theorem ev_at7 {α : Type} {f : M α} {ρ : Sls} {R : α → Sls → Prop} {a0 a1 a2 a3 a4 a5 a6 : Option O} (e : ρ = [a0, a1, a2, a3, a4, a5, a6]) (h : Ev f [a0, a1, a2, a3, a4, a5, a6] R) : Ev f ρ R := by subst e; exact h
theorem ev_at8 {α : Type} {f : M α} {ρ : Sls} {R : α → Sls → Prop} {a0 a1 a2 a3 a4 a5 a6 a7 : Option O} (e : ρ = [a0, a1, a2, a3, a4, a5, a6, a7]) (h : Ev f [a0, a1, a2, a3, a4, a5, a6, a7] R) : Ev f ρ R := by subst e; exact h
theorem ev_at9 {α : Type} {f : M α} {ρ : Sls} {R : α → Sls → Prop} {a0 a1 a2 a3 a4 a5 a6 a7 a8 : Option O} (e : ρ = [a0, a1, a2, a3, a4, a5, a6, a7, a8]) (h : Ev f [a0, a1, a2, a3, a4, a5, a6, a7, a8] R) : Ev f ρ R := by subst e; exact h
theorem ev_at10 {α : Type} {f : M α} {ρ : Sls} {R : α → Sls → Prop} {a0 a1 a2 a3 a4 a5 a6 a7 a8 a9 : Option O} (e : ρ = [a0, a1, a2, a3, a4, a5, a6, a7, a8, a9]) (h : Ev f [a0, a1, a2, a3, a4, a5, a6, a7, a8, a9] R) : Ev f ρ R := by subst e; exact h
theorem ev_at11 {α : Type} {f : M α} {ρ : Sls} {R : α → Sls → Prop} {a0 a1 a2 a3 a4 a5 a6 a7 a8 a9 a10 : Option O} (e : ρ = [a0, a1, a2, a3, a4, a5, a6, a7, a8, a9, a10]) (h : Ev f [a0, a1, a2, a3, a4, a5, a6, a7, a8, a9, a10] R) : Ev f ρ R := by subst e; exact h
theorem ev_at12 {α : Type} {f : M α} {ρ : Sls} {R : α → Sls → Prop} {a0 a1 a2 a3 a4 a5 a6 a7 a8 a9 a10 a11 : Option O} (e : ρ = [a0, a1, a2, a3, a4, a5, a6, a7, a8, a9, a10, a11]) (h : Ev f [a0, a1, a2, a3, a4, a5, a6, a7, a8, a9, a10, a11] R) : Ev f ρ R := by subst e; exact h
theorem ev_at13 {α : Type} {f : M α} {ρ : Sls} {R : α → Sls → Prop} {a0 a1 a2 a3 a4 a5 a6 a7 a8 a9 a10 a11 a12 : Option O} (e : ρ = [a0, a1, a2, a3, a4, a5, a6, a7, a8, a9, a10, a11, a12]) (h : Ev f [a0, a1, a2, a3, a4, a5, a6, a7, a8, a9, a10, a11, a12] R) : Ev f ρ R := by subst e; exact h
theorem ev_at14 {α : Type} {f : M α} {ρ : Sls} {R : α → Sls → Prop} {a0 a1 a2 a3 a4 a5 a6 a7 a8 a9 a10 a11 a12 a13 : Option O} (e : ρ = [a0, a1, a2, a3, a4, a5, a6, a7, a8, a9, a10, a11, a12, a13]) (h : Ev f [a0, a1, a2, a3, a4, a5, a6, a7, a8, a9, a10, a11, a12, a13] R) : Ev f ρ R := by subst e; exact h
theorem ev_at15 {α : Type} {f : M α} {ρ : Sls} {R : α → Sls → Prop} {a0 a1 a2 a3 a4 a5 a6 a7 a8 a9 a10 a11 a12 a13 a14 : Option O} (e : ρ = [a0, a1, a2, a3, a4, a5, a6, a7, a8, a9, a10, a11, a12, a13, a14]) (h : Ev f [a0, a1, a2, a3, a4, a5, a6, a7, a8, a9, a10, a11, a12, a13, a14] R) : Ev f ρ R := by subst e; exact h
theorem ev_at16 {α : Type} {f : M α} {ρ : Sls} {R : α → Sls → Prop} {a0 a1 a2 a3 a4 a5 a6 a7 a8 a9 a10 a11 a12 a13 a14 a15 : Option O} (e : ρ = [a0, a1, a2, a3, a4, a5, a6, a7, a8, a9, a10, a11, a12, a13, a14, a15]) (h : Ev f [a0, a1, a2, a3, a4, a5, a6, a7, a8, a9, a10, a11, a12, a13, a14, a15] R) : Ev f ρ R := by subst e; exact h
theorem ev_at17 {α : Type} {f : M α} {ρ : Sls} {R : α → Sls → Prop} {a0 a1 a2 a3 a4 a5 a6 a7 a8 a9 a10 a11 a12 a13 a14 a15 a16 : Option O} (e : ρ = [a0, a1, a2, a3, a4, a5, a6, a7, a8, a9, a10, a11, a12, a13, a14, a15, a16]) (h : Ev f [a0, a1, a2, a3, a4, a5, a6, a7, a8, a9, a10, a11, a12, a13, a14, a15, a16] R) : Ev f ρ R := by subst e; exact h
theorem ev_at18 {α : Type} {f : M α} {ρ : Sls} {R : α → Sls → Prop} {a0 a1 a2 a3 a4 a5 a6 a7 a8 a9 a10 a11 a12 a13 a14 a15 a16 a17 : Option O} (e : ρ = [a0, a1, a2, a3, a4, a5, a6, a7, a8, a9, a10, a11, a12, a13, a14, a15, a16, a17]) (h : Ev f [a0, a1, a2, a3, a4, a5, a6, a7, a8, a9, a10, a11, a12, a13, a14, a15, a16, a17] R) : Ev f ρ R := by subst e; exact h
theorem ev_at19 {α : Type} {f : M α} {ρ : Sls} {R : α → Sls → Prop} {a0 a1 a2 a3 a4 a5 a6 a7 a8 a9 a10 a11 a12 a13 a14 a15 a16 a17 a18 : Option O} (e : ρ = [a0, a1, a2, a3, a4, a5, a6, a7, a8, a9, a10, a11, a12, a13, a14, a15, a16, a17, a18]) (h : Ev f [a0, a1, a2, a3, a4, a5, a6, a7, a8, a9, a10, a11, a12, a13, a14, a15, a16, a17, a18] R) : Ev f ρ R := by subst e; exact h
theorem ev_at20 {α : Type} {f : M α} {ρ : Sls} {R : α → Sls → Prop} {a0 a1 a2 a3 a4 a5 a6 a7 a8 a9 a10 a11 a12 a13 a14 a15 a16 a17 a18 a19 : Option O} (e : ρ = [a0, a1, a2, a3, a4, a5, a6, a7, a8, a9, a10, a11, a12, a13, a14, a15, a16, a17, a18, a19]) (h : Ev f [a0, a1, a2, a3, a4, a5, a6, a7, a8, a9, a10, a11, a12, a13, a14, a15, a16, a17, a18, a19] R) : Ev f ρ R := by subst e; exact h
theorem ev_at21 {α : Type} {f : M α} {ρ : Sls} {R : α → Sls → Prop} {a0 a1 a2 a3 a4 a5 a6 a7 a8 a9 a10 a11 a12 a13 a14 a15 a16 a17 a18 a19 a20 : Option O} (e : ρ = [a0, a1, a2, a3, a4, a5, a6, a7, a8, a9, a10, a11, a12, a13, a14, a15, a16, a17, a18, a19, a20]) (h : Ev f [a0, a1, a2, a3, a4, a5, a6, a7, a8, a9, a10, a11, a12, a13, a14, a15, a16, a17, a18, a19, a20] R) : Ev f ρ R := by subst e; exact h
theorem ev_at22 {α : Type} {f : M α} {ρ : Sls} {R : α → Sls → Prop} {a0 a1 a2 a3 a4 a5 a6 a7 a8 a9 a10 a11 a12 a13 a14 a15 a16 a17 a18 a19 a20 a21 : Option O} (e : ρ = [a0, a1, a2, a3, a4, a5, a6, a7, a8, a9, a10, a11, a12, a13, a14, a15, a16, a17, a18, a19, a20, a21]) (h : Ev f [a0, a1, a2, a3, a4, a5, a6, a7, a8, a9, a10, a11, a12, a13, a14, a15, a16, a17, a18, a19, a20, a21] R) : Ev f ρ R := by subst e; exact h
theorem ev_at23 {α : Type} {f : M α} {ρ : Sls} {R : α → Sls → Prop} {a0 a1 a2 a3 a4 a5 a6 a7 a8 a9 a10 a11 a12 a13 a14 a15 a16 a17 a18 a19 a20 a21 a22 : Option O} (e : ρ = [a0, a1, a2, a3, a4, a5, a6, a7, a8, a9, a10, a11, a12, a13, a14, a15, a16, a17, a18, a19, a20, a21, a22]) (h : Ev f [a0, a1, a2, a3, a4, a5, a6, a7, a8, a9, a10, a11, a12, a13, a14, a15, a16, a17, a18, a19, a20, a21, a22] R) : Ev f ρ R := by subst e; exact h
theorem ev_at24 {α : Type} {f : M α} {ρ : Sls} {R : α → Sls → Prop} {a0 a1 a2 a3 a4 a5 a6 a7 a8 a9 a10 a11 a12 a13 a14 a15 a16 a17 a18 a19 a20 a21 a22 a23 : Option O} (e : ρ = [a0, a1, a2, a3, a4, a5, a6, a7, a8, a9, a10, a11, a12, a13, a14, a15, a16, a17, a18, a19, a20, a21, a22, a23]) (h : Ev f [a0, a1, a2, a3, a4, a5, a6, a7, a8, a9, a10, a11, a12, a13, a14, a15, a16, a17, a18, a19, a20, a21, a22, a23] R) : Ev f ρ R := by subst e; exact h
theorem ev_at25 {α : Type} {f : M α} {ρ : Sls} {R : α → Sls → Prop} {a0 a1 a2 a3 a4 a5 a6 a7 a8 a9 a10 a11 a12 a13 a14 a15 a16 a17 a18 a19 a20 a21 a22 a23 a24 : Option O} (e : ρ = [a0, a1, a2, a3, a4, a5, a6, a7, a8, a9, a10, a11, a12, a13, a14, a15, a16, a17, a18, a19, a20, a21, a22, a23, a24]) (h : Ev f [a0, a1, a2, a3, a4, a5, a6, a7, a8, a9, a10, a11, a12, a13, a14, a15, a16, a17, a18, a19, a20, a21, a22, a23, a24] R) : Ev f ρ R := by subst e; exact h
theorem ev_at26 {α : Type} {f : M α} {ρ : Sls} {R : α → Sls → Prop} {a0 a1 a2 a3 a4 a5 a6 a7 a8 a9 a10 a11 a12 a13 a14 a15 a16 a17 a18 a19 a20 a21 a22 a23 a24 a25 : Option O} (e : ρ = [a0, a1, a2, a3, a4, a5, a6, a7, a8, a9, a10, a11, a12, a13, a14, a15, a16, a17, a18, a19, a20, a21, a22, a23, a24, a25]) (h : Ev f [a0, a1, a2, a3, a4, a5, a6, a7, a8, a9, a10, a11, a12, a13, a14, a15, a16, a17, a18, a19, a20, a21, a22, a23, a24, a25] R) : Ev f ρ R := by subst e; exact h
theorem ev_at27 {α : Type} {f : M α} {ρ : Sls} {R : α → Sls → Prop} {a0 a1 a2 a3 a4 a5 a6 a7 a8 a9 a10 a11 a12 a13 a14 a15 a16 a17 a18 a19 a20 a21 a22 a23 a24 a25 a26 : Option O} (e : ρ = [a0, a1, a2, a3, a4, a5, a6, a7, a8, a9, a10, a11, a12, a13, a14, a15, a16, a17, a18, a19, a20, a21, a22, a23, a24, a25, a26]) (h : Ev f [a0, a1, a2, a3, a4, a5, a6, a7, a8, a9, a10, a11, a12, a13, a14, a15, a16, a17, a18, a19, a20, a21, a22, a23, a24, a25, a26] R) : Ev f ρ R := by subst e; exact h
theorem ev_at28 {α : Type} {f : M α} {ρ : Sls} {R : α → Sls → Prop} {a0 a1 a2 a3 a4 a5 a6 a7 a8 a9 a10 a11 a12 a13 a14 a15 a16 a17 a18 a19 a20 a21 a22 a23 a24 a25 a26 a27 : Option O} (e : ρ = [a0, a1, a2, a3, a4, a5, a6, a7, a8, a9, a10, a11, a12, a13, a14, a15, a16, a17, a18, a19, a20, a21, a22, a23, a24, a25, a26, a27]) (h : Ev f [a0, a1, a2, a3, a4, a5, a6, a7, a8, a9, a10, a11, a12, a13, a14, a15, a16, a17, a18, a19, a20, a21, a22, a23, a24, a25, a26, a27] R) : Ev f ρ R := by subst e; exact h
theorem ev_at29 {α : Type} {f : M α} {ρ : Sls} {R : α → Sls → Prop} {a0 a1 a2 a3 a4 a5 a6 a7 a8 a9 a10 a11 a12 a13 a14 a15 a16 a17 a18 a19 a20 a21 a22 a23 a24 a25 a26 a27 a28 : Option O} (e : ρ = [a0, a1, a2, a3, a4, a5, a6, a7, a8, a9, a10, a11, a12, a13, a14, a15, a16, a17, a18, a19, a20, a21, a22, a23, a24, a25, a26, a27, a28]) (h : Ev f [a0, a1, a2, a3, a4, a5, a6, a7, a8, a9, a10, a11, a12, a13, a14, a15, a16, a17, a18, a19, a20, a21, a22, a23, a24, a25, a26, a27, a28] R) : Ev f ρ R := by subst e; exact h
theorem ev_at30 {α : Type} {f : M α} {ρ : Sls} {R : α → Sls → Prop} {a0 a1 a2 a3 a4 a5 a6 a7 a8 a9 a10 a11 a12 a13 a14 a15 a16 a17 a18 a19 a20 a21 a22 a23 a24 a25 a26 a27 a28 a29 : Option O} (e : ρ = [a0, a1, a2, a3, a4, a5, a6, a7, a8, a9, a10, a11, a12, a13, a14, a15, a16, a17, a18, a19, a20, a21, a22, a23, a24, a25, a26, a27, a28, a29]) (h : Ev f [a0, a1, a2, a3, a4, a5, a6, a7, a8, a9, a10, a11, a12, a13, a14, a15, a16, a17, a18, a19, a20, a21, a22, a23, a24, a25, a26, a27, a28, a29] R) : Ev f ρ R := by subst e; exact h
end PF

set_option Elab.async false
set_option linter.all false
set_option maxRecDepth 100000
set_option maxHeartbeats 1000000
namespace PF
open PySem PySem.Spec PyProof.Rows L2
/-! ### xs.extend(ys) -/
def extO (ds : List D) : O → Option O
  | .lst os => if os.length + ds.length ≤ lim then some (.lst (os ++ ds.map .val)) else none
  | _ => none
def extF (i : Nat) (fe : M O) : M O := (pk i).bind fun b => match b with
  | .lst _ => fe.bind fun v => (M.of v.dsL).bind fun ds => (upM i (extO ds)).bind fun _ => M.pure (.val .non)
  | _ => M.stuck
theorem RepOs.apps {g : Gv} {H F : Hp} : ∀ {os ps : List O} {vs us : List V} {S T : Addr → Prop}, RepOs g H F os vs S → RepOs g H F ps us T → (∀ b, S b → T b → False) → RepOs g H F (os ++ ps) (vs ++ us) (fun b => S b ∨ T b)
  | [], ps, vs, us, S, T, r, r2, d => by
    rw [RepOs] at r; subst r
    exact RepOs.sup g (fun b hb => .inr hb) r2
  | o :: os, ps, vs, us, S, T, r, r2, d => by
    rw [RepOs] at r
    obtain ⟨v, ws, S1, S2, rfl, sp, r1, rs⟩ := r
    rw [List.cons_append, List.cons_append, RepOs]
    exact ⟨v, _, S1, fun b => S2 b ∨ T b, rfl, ⟨fun b hb => .inl (sp.l b hb), fun b hb => hb.elim (fun h => .inl (sp.r b h)) .inr, fun b h1 h2 => h2.elim (sp.d b h1) (d b (sp.l b h1))⟩, r1, RepOs.apps rs r2 fun b h1 h2 => d b (sp.r b h1) h2⟩
section
variable {W : WX} {X : Cx} {ca : Ca} {a e : Expr} {fe : M O} {apos cpos : Pos}
theorem e_extend (i : Nat) (ha : PE X a (tVar i)) (he : PE X e (T (gv X ca) W fe))
    (hbase : attributeBase a "extend" X.env (eval a X.env) = eval a X.env := by rfl)
    (hfew : ((backTo cpos (starEach [e] X.env)).all (fun x => !x.1) && (backToKw cpos (keywordEach [] X.env)).all (fun x => x.1.isSome)
      && decide (([e] : List Expr).length + ([] : List Keyword).length + (if ([] : List Keyword).isEmpty then 0 else 1) < 30)) = true := by rfl)
    (hline : (apos.endLine == cpos.line) = true := by rfl) (hs : starEach [e] X.env = (false, eval e X.env) :: starEach [] X.env := by rfl) (hplain : (backTo cpos (starEach [] X.env)).any (·.1) = false := by rfl) :
    PE X (.Call (.Attribute a "extend" apos) [e] [] cpos) (T (gv X ca) W (extF i fe)) :=
  PE.imp (pe_bm PySem.F.plainAttrs_list PySem.F.slot_list_extend PySem.F.type_list_extend mt_extend ha (pa_cons he pa_nil hs) hbase hfew hline hs hplain) fun σ H Q ⟨F, Gx, ρ, st, r⟩ => by
    obtain ⟨o0, h0, r⟩ := r.pk
    obtain ⟨x, S, hx, rx⟩ := st.peek h0
    split at r
    · rename_i os
      rw [RepO] at rx
      obtain ⟨l, vs, rfl, sa, hH, rs⟩ := rx
      refine ⟨_, hx, .inl ⟨rfl, vs, SqL.of hH⟩, F, Gx, ρ, st, r.bind.mono fun v H1 F1 ρ1 le1 r1 vv st1 => ?_⟩
      obtain ⟨ds, ed, r2⟩ := r1.bind.of
      obtain ⟨S2, rvv⟩ := Good.view (B := slL σ ρ1) st1.gd
      obtain ⟨b, us, rfl, hb, rds⟩ := dsL_ok st1.le rvv ed
      have st2 : StG (gv X ca) H1 F1 Gx σ ρ1 ([] ++ []) := st1.drop1
      obtain ⟨o1, o2, h1, h2, r3⟩ := (r2 H1 F1 (Le.refl _)).up
      unfold extO at h2
      split at h2
      · rename_i os1
        split at h2
        · rename_i hz
          cases h2
          obtain ⟨S1, SA, rr, rA, d, w⟩ := StG.wr (A := []) (L := []) st2 h1 hx
          rw [RepO] at rr
          obtain ⟨l', xs, e', sa', hH1, rs1⟩ := rr
          cases e'
          have hl1 : xs.length = os1.length := rs1.length
          have hl2 : us.length = ds.length := rds.length
          have ra := RepOs.apps (T := fun _ => False) rs1 (RepVs.os (H := H1) rds (fun _ => False)) fun b _ h => h.elim
          have st3 := w (.lst (os1 ++ ds.map .val)) (.lst (xs ++ us)) sa' (by
            rw [RepO]
            exact ⟨l, _, rfl, .inl sa', upd_same, RepOs.sup _ (fun b hb => ⟨.inl (hb.1.elim id fun h => h.elim), hb.2⟩) (RepOs.wrote (SA := fun _ => False) ra sa' fun b _ h => h)⟩)
          exact ⟨l, b, xs, us, rfl, rfl, hH1, hb, by rw [hl1, hl2]; exact lim_le hz, (r3 (upd H1 l (.lst (xs ++ us)))).pure _ F1 (Le.refl _) .non (st3.ofVal repN)⟩
        · cases h2
      · cases h2
    · obtain ⟨_, _, e⟩ := r.run; cases e
end
end PF

set_option Elab.async false
set_option linter.all false
set_option maxRecDepth 100000
set_option maxHeartbeats 1000000
namespace PF
open PySem PySem.Spec PyProof.Rows L2
/-! ### a, b = a list -/
def tupTL (n : Nat) (hs : List D → M Unit) : O → M Unit := fun o => match o.dsL with
  | some ds => if ds.length = n then hs ds else M.stuck
  | none => M.stuck
section
variable {W : WX} {pn : List Nat} {X : Cx} {ca : Ca} {es : List Expr} {hs : List D → M Unit} {pos : Pos}
theorem g_tupL {k n : Nat} (hc : X.calm = true) (hh : PGs X es (Tgs (gv X ca) W pn hs)) (hn : (assignEach es X.env).length = n := by rfl) (hst : (assignEach es X.env).findIdx? (·.1) = none := by rfl) : PG X (.Tuple es k pos) (Tg (gv X ca) W pn (tupTL n hs)) :=
  PG.imp (pg_lst hc hh hn hst) fun v σ H Q ⟨F, Gx, ρ, o, st, r⟩ => by
    obtain ⟨_, _, e⟩ := r.run
    unfold tupTL at r e
    cases q : o.dsL with
    | none => simp only [q] at e; cases e
    | some ds =>
      simp only [q] at r e
      split at r
      · rename_i hl
        obtain ⟨S, rv⟩ := Good.view (B := slL σ ρ) st.gd
        obtain ⟨a, vs, rfl, hq, rvs⟩ := dsL_ok st.le rv q
        have st1 := st.drop1
        have rvs2 : RepVs (gv X ca) F ds vs := rvs
        exact ⟨a, vs, rfl, SqL.of hq, by rw [rvs.length]; exact hl, F, Gx, ρ, ds, st1, rvs2, r⟩
      · rename_i hl
        simp only [hl, if_false] at e; cases e
end
theorem ev_tupTL {n : Nat} {hs : List D → M Unit} {o : O} {ds : List D} {ρ : Sls} {R : Unit → Sls → Prop} (h : o.dsL = some ds) (hn : ds.length = n) (q : Ev (hs ds) ρ R) : Ev (tupTL n hs o) ρ R := by
  unfold tupTL
  simp only [h]
  rw [if_pos hn]
  exact q
end PF

set_option Elab.async false
set_option linter.all false
set_option maxRecDepth 100000
set_option maxHeartbeats 1000000
namespace PF
open PySem PySem.Spec PyProof.Rows L2
/-! ### xs[j][k] += e -/
def get2i (p : List O × Nat × List O) (k : O) : Option Int := match k with
  | .val (.int m) => (ixN p.2.2.length m).bind fun q => match p.2.2[q]? with
    | some (.val (.int z)) => some z
    | _ => none
  | _ => none
def plus2 (p : List O × Nat × List O) (k : O) (z : Int) (v : O) : Option O := match k, v with
  | .val (.int m), .val (.int c) => (ixN p.2.2.length m).map fun q => .lst (p.1.set p.2.1 (.lst (p.2.2.set q (.val (.int (z + c))))))
  | _, _ => none
def aug2V (i : Nat) (fk1 fk2 fe : M O) : M Out := (pk i).bind fun _ => fk1.bind fun k1 => (mv i).bind fun o => (M.of (row2 o k1)).bind fun p => fk2.bind fun k2 => (M.of (get2i p k2)).bind fun z => fe.bind fun v => (M.of (plus2 p k2 z v)).bind fun o' => (bk i o').bind fun _ => M.pure .nx
theorem plus2_some {p : List O × Nat × List O} {m : Int} {z : Int} {v o' : O} (h : plus2 p (.val (.int m)) z v = some o') : ∃ c q, v = .val (.int c) ∧ ixN p.2.2.length m = some q ∧ o' = .lst (p.1.set p.2.1 (.lst (p.2.2.set q (.val (.int (z + c)))))) := by
  cases v with
  | val d =>
    cases d with
    | int c =>
      obtain ⟨q, hq, e⟩ := Option.map_eq_some_iff.mp (show (ixN p.2.2.length m).map (fun q => O.lst (p.1.set p.2.1 (.lst (p.2.2.set q (.val (.int (z + c))))))) = some o' from h)
      exact ⟨c, q, rfl, hq, e.symm⟩
    | _ => cases h
  | _ => cases h
theorem get2i_some {p : List O × Nat × List O} {k : O} {z : Int} (h : get2i p k = some z) : ∃ m q, k = .val (.int m) ∧ ixN p.2.2.length m = some q ∧ p.2.2[q]? = some (.val (.int z)) := by
  unfold get2i at h
  split at h
  · rename_i m
    obtain ⟨q, hq, h⟩ := Option.bind_eq_some_iff.mp h
    split at h
    · rename_i z' hz
      cases h
      exact ⟨m, q, rfl, hq, hz⟩
    · cases h
  · cases h
section
variable {W : WX} {pn : List Nat} {X : Cx} {ca : Ca} {a b1 b2 e : Expr} {fk1 fk2 fe : M O} {pos p1 tpos : Pos}
theorem s_aug2V (i : Nat) (ha : PE X a (tVar i)) (hb1 : PE X b1 (T (gv X ca) W fk1)) (hb2 : PE X b2 (T (gv X ca) W fk2)) (he : PE X e (T (gv X ca) W fe)) (hs1 : PlainIx b1 := by exact fun _ _ => rfl)
    (hass : ∀ ov iv new, augStore b2 ov iv new = (do holding [new, ov, iv] (setItem ov iv new); release [new, ov, iv] []; pure .next) := by intros; rfl) :
    PS X (.AugAssign (.Subscript (.Subscript a b1 p1) b2 tpos) .Add e pos) (Ts (gv X ca) W pn (aug2V i fk1 fk2 fe)) :=
  PS.imp (ps_augS (pe_ix ix_list ha hb1 hs1) hb2 get_list he ip_add set_list hass) fun D σ H ⟨F, Gx, ρ, st, r⟩ => by
    obtain ⟨o0, h0, r⟩ := r.pk
    obtain ⟨x, hx⟩ := st.wf i o0 h0
    refine ⟨x, hx, F, Gx, ρ, st, (r.expr (H := H)).mono fun k1 H1 F1 ρ1 le1 r1 kv st3 => ?_⟩
    obtain ⟨o1, h1, r2⟩ := Rs.mv r1
    obtain ⟨x', hx', st4⟩ := st3.take h1
    rw [hx] at hx'; cases hx'
    obtain ⟨⟨os, j, xs⟩, ej, r3⟩ := (r2.expr (H := H1)).of
    obtain ⟨n, rfl, rfl, hj, hxs⟩ := row2_some ej
    simp only at hj hxs
    have ekv : kv = .int n := by
      have z := (st4.perm (L' := [(kv, .val (.int n)), (x, .lst os)]) (.swap _ _ _)).gd.val
      rw [RepV] at z; exact z
    subst ekv
    obtain ⟨Gx2, SB, rB, hB, st5, back2⟩ := st4.asideP
    obtain ⟨S1, S2, sp, ro, _⟩ := rB
    simp only at ro
    rw [RepO] at ro
    obtain ⟨p, vs, rfl, sa, hH, rs⟩ := ro
    obtain ⟨w, T1, hw, hsub, ro3, _⟩ := RepOs.sub rs hxs
    rw [RepO] at ro3
    obtain ⟨l, ws, rfl, sl, hl, _⟩ := ro3
    have hlen : vs.length = os.length := rs.length
    refine ⟨p, vs, n, .ref l, rfl, rfl, SqL.of hH, by unfold L2.atI; rw [hlen, hj]; exact hw, F1, Gx2, ρ1.set i none, st5, (Rn.aside ((r3 H1 F1 (Le.refl _)).expr (H := H1)) fun H' F' ρ' le q => (back2 H' F' ρ' [] le q).drop1.drop1).mono fun k2 H2 F2 ρ2 le2 r4 kv2 st6 => ?_⟩
    have hHl2 : H2 l = some (.lst ws) := StG.stays hB st6 (sp.l l (hsub l sl).1) hl
    obtain ⟨z, ez, r5⟩ := (r4.expr (H := H2)).of
    obtain ⟨m, q, rfl, hq, hz⟩ := get2i_some ez
    simp only at hq hz
    · · have ekv2 : kv2 = .int m := by
          have zz := st6.gd.val (B := slL σ ρ2)
          rw [RepV] at zz; exact zz
        subst ekv2
        have st7 := back2 H2 F2 ρ2 _ le2 st6
        have hHp2 : H2 p = some (.lst vs) := StG.stays hB st6 (sp.l p sa) hH
        -- what the row holds
        obtain ⟨Sa, Sb, rP⟩ : ∃ Sa Sb : Addr → Prop, RepO (gv X ca) H2 F2 (.lst os) (.ref p) Sa ∧ Sb = Sa := by
          have := (st7.perm (L' := [(.ref p, .lst os), (.int n, .val (.int n)), (.int m, .val (.int m))]) (.refl _))
          obtain ⟨S, hS⟩ := Good.view (B := _) this.gd
          exact ⟨S, S, hS, rfl⟩
        obtain ⟨rP, _⟩ := rP
        rw [RepO] at rP
        obtain ⟨p', vs', e1, sa', hH', rs'⟩ := rP
        cases e1
        rw [hHp2] at hH'; cases hH'
        obtain ⟨w', T', hw', hsub', ro', _⟩ := RepOs.sub rs' hxs
        rw [hw] at hw'; cases hw'
        rw [RepO] at ro'
        obtain ⟨l', ws', e2, sl', hl', rws'⟩ := ro'
        cases e2
        rw [hHl2] at hl'; cases hl'
        have hwl : ws.length = xs.length := rws'.length
        obtain ⟨wz, _, hwz, _, roz, _⟩ := RepOs.sub rws' hz
        rw [RepO, RepV] at roz
        subst roz
        refine ⟨l, ws, m, .int z, rfl, rfl, SqL.of hHl2, by unfold L2.atI; rw [hwl, hq]; exact hwz, F2, Gx2, ρ2, st6.drop1, (Rn.aside ((r5 H2 F2 (Le.refl _)).expr (H := H2)) fun H' F' ρ' le q => (back2 H' F' ρ' [] (le2.trans le) q).drop1.drop1).mono fun v H3 F3 ρ3 le3 r6 y st8 => ?_⟩
        have st9 := back2 H3 F3 ρ3 _ (le2.trans le3) st8
        have hHp3 : H3 p = some (.lst vs) := StG.stays hB st8 (sp.l p sa) hH
        have hHl3 : H3 l = some (.lst ws) := StG.stays hB st8 (sp.l l (hsub l sl).1) hl
        obtain ⟨o', eo, r7⟩ := (r6.expr (H := H3)).of
        obtain ⟨c, q2, rfl, hq2, rfl⟩ := plus2_some eo
        simp only at hq2
        rw [hq] at hq2; cases hq2
        · have ey : y = .int c := by
            have zz := st8.gd.val (B := slL σ ρ3)
            rw [RepV] at zz; exact zz
          subst ey
          obtain ⟨hi, fin⟩ := Rs.bk (r7 H3 F3 (Le.refl _)).bind
          have hil : i < ρ3.length := (List.getElem?_eq_some_iff.mp hi).1
          have st10 : StG (gv X ca) H3 F3 Gx σ (ρ3.set i (some (.lst os))) [(.int n, .val (.int n)), (.int c, .val (.int c))] := st9.putback hx hi
          have st11 : StG (gv X ca) H3 F3 Gx σ (ρ3.set i (some (.lst os))) ([] ++ []) := st10.drop1.drop1
          obtain ⟨S1', SA, rr, rA, dd, wr⟩ := StG.wrN (o := .lst os) (A := []) (L := []) st11 (by simp [hil]) hx
          rw [RepO] at rr
          obtain ⟨p', vs', e1, sa', hH', rs'⟩ := rr
          cases e1
          rw [hHp3] at hH'; cases hH'
          obtain ⟨w', T', hw', hsub', ro', put⟩ := RepOs.sub rs' hxs
          rw [hw] at hw'; cases hw'
          rw [RepO] at ro'
          obtain ⟨l', ws', e2, sl', hl', rws'⟩ := ro'
          cases e2
          rw [hHl3] at hl'; cases hl'
          have hSl := hsub' l sl'
          have rset := RepOs.set (T := fun _ => False) (o := .val (.int (z + c))) (v := .int (z + c)) q rws' (by rw [RepO, RepV]) fun b _ h2 => h2.elim
          have rol : RepO (gv X ca) (upd H3 l (.lst (ws.set q (.int (z + c))))) F3 (.lst (xs.set q (.val (.int (z + c))))) (.ref l) (fun b => T' b ∨ False) := by
            rw [RepO]
            exact ⟨l, ws.set q (.int (z + c)), rfl, .inl sl', upd_same, RepOs.wrote rset sl' fun b _ h2 => h2⟩
          have ro5 := put l (.lst (ws.set q (.int (z + c)))) (.lst (xs.set q (.val (.int (z + c))))) (fun _ => False) sl' (fun b _ h2 => h2) rol
          have st12 := wr (.lst (os.set j (.lst (xs.set q (.val (.int (z + c))))))) l (.lst (ws.set q (.int (z + c)))) hSl.1 (by
            rw [RepO]
            exact ⟨p, vs, rfl, .inl sa', by rw [upd_ne (Ne.symm hSl.2)]; exact hHp3, RepOs.sup _ (fun b hb => hb.elim (fun hb => ⟨.inl hb.1, hb.2⟩) (fun hb => hb.elim)) ro5⟩)
          rw [List.set_set] at st12
          refine ⟨z, c, rfl, rfl, l, ws, m, q, rfl, rfl, hHl3, by rw [hwl]; exact hq, ?_⟩
          exact (fin H3 F3 σ (Le.refl _) (Pin.refl _)).pure _ F3 σ (Le.refl _) (Pin.refl _) st12
end
section
variable {ρ : Sls}
theorem ev_aug2V {i : Nat} {fk1 fk2 fe : M O} {R : Out → Sls → Prop} (q : ∃ o, ρ[i]? = some (some o) ∧ Ev fk1 ρ fun k1 ρ1 => ∃ o1 p, ρ1[i]? = some (some o1) ∧ row2 o1 k1 = some p ∧ Ev fk2 (ρ1.set i none) fun k2 ρ2 => ∃ z, get2i p k2 = some z ∧ Ev fe ρ2 fun v ρ3 => ∃ o2, plus2 p k2 z v = some o2 ∧ ρ3[i]? = some none ∧ R .nx (ρ3.set i (some o2))) : Ev (aug2V i fk1 fk2 fe) ρ R := by
  obtain ⟨o, h, q⟩ := q
  unfold aug2V
  refine ev_bind.mpr (ev_pk.mpr ⟨o, h, ev_bind.mpr (q.mono fun k1 ρ1 ⟨o1, p, h1, h2, q⟩ => ?_)⟩)
  refine ev_bind.mpr (ev_mv0 h1 (ev_bind.mpr (ev_of.mpr ⟨p, h2, ev_bind.mpr (q.mono fun k2 ρ2 ⟨z, h3, q⟩ => ?_)⟩)))
  refine ev_bind.mpr (ev_of.mpr ⟨z, h3, ev_bind.mpr (q.mono fun v ρ3 ⟨o2, h4, h5, q⟩ => ?_)⟩)
  exact ev_bind.mpr (ev_of.mpr ⟨o2, h4, ev_bind.mpr (ev_bk0 h5 (ev_pure.mpr q))⟩)
end
end PF

set_option Elab.async false
set_option linter.all false
set_option maxRecDepth 100000
set_option maxHeartbeats 4000000
namespace PF
open PySem PySem.Spec PyProof.Rows L2
/-! ### text * int, tuple * int -/
def repS' (x : Str) (n : Nat) : Str := ⟨(List.replicate n x.cps).foldl (· ++ ·) #[]⟩
@[irreducible] def mulH : O → O → Option O
  | .val (.str x), .val (.int k) => if 2 ≤ k ∧ k ≤ 1000 ∧ 1 ≤ x.length ∧ x.length ≤ 1000 then some (.val (.str (repS' x k.toNat))) else none
  | .val (.tup ds), .val (.int k) => if 0 ≤ k ∧ k ≤ 1000 ∧ 1 ≤ ds.length ∧ ds.length ≤ 1000 then some (.val (.tup (List.replicate k.toNat ds).flatten)) else none
  | _, _ => none
theorem foldl_apps {α : Type} (a : Array α) : ∀ (m : Nat) (acc : Array α), ((List.replicate m a).foldl (· ++ ·) acc).toList = acc.toList ++ (List.replicate m a.toList).flatten
  | 0, acc => by simp
  | m + 1, acc => by
    rw [List.replicate_succ, List.foldl_cons, foldl_apps a m, List.replicate_succ, List.flatten_cons, Array.toList_append, List.append_assoc]
theorem repS_list (x : Str) (n : Nat) : (repS' x n).cps.toList = (List.replicate n x.cps.toList).flatten := by
  unfold repS'
  rw [foldl_apps]; rfl
theorem repS_len (x : Str) (n : Nat) : (repS' x n).length = n * x.length := by
  show (repS' x n).cps.size = n * x.cps.size
  rw [← Array.length_toList, repS_list, PyProof.Rows.lm_len_rep_flat, Array.length_toList]
section
variable {prog : Program} {w : World} {A : Around} {E : Value → Shared → Prop} {s : Shared}
theorem mul_str2 {x : Str} {n : Int} {t u : Tok} {Q : Value → Shared → Prop} (h1 : 2 ≤ n) (h2 : n ≤ 1000) (h3 : 1 ≤ x.length) (h4 : x.length ≤ 1000) (h : Q (.str (repS' x n.toNat) s.toks) { s with toks := s.toks + 1 }) :
    wpAny (model prog w) A (binaryOp .Mult (.str x t) (.int n u)) Q E s := by
  have hm : x.length * n.toNat ≤ 1000 * 1000 := Nat.mul_le_mul h4 (by omega)
  refine P.mul_str (by rw [decide_eq_false (by omega), decide_eq_false (by omega)]; rfl) (fun _ _ => ?_) (fun _ _ => ?_) ?_
  · refine Int.not_lt.mpr (Int.le_ediv_of_mul_le (by omega) ?_)
    have e : (x.length : Int) * n = ((x.length * n.toNat : Nat) : Int) := by rw [Int.natCast_mul, Int.toNat_of_nonneg (by omega)]
    rw [e]
    omega
  · unfold Builtin.Str.tooLong
    rw [sizeLine_eq]
    exact decide_eq_false (by omega)
  · have e : (n == 1 || x.length == 0) = false := by
      rw [Bool.or_eq_false_iff]
      exact ⟨beq_eq_false_iff_ne.mpr (by omega), beq_eq_false_iff_ne.mpr (by omega)⟩
    rw [if_neg (by omega), if_neg (by rw [e]; simp)]
    exact ⟨by show (repS' x n.toNat).length ≤ _; rw [repS_len, sizeLine_eq]; rw [Nat.mul_comm] at hm; omega, h⟩
end
theorem tuple_mul1 (l : Addr) (items : Array Value) (n : Nat) (dd : Option Addr) (sl : Array (Option Value)) (u : Tok) :
    Meets (Builtin.«tuple.__mul__» ⟨[.ref l, .int 1 u], []⟩) (fun _ R s => s.heap.get? l = some { cls := .type "tuple", dict := dd, data := .seq items n, slots := sl } ∧ R (.ok (.ret (Value.ref l))) s) :=
  .of_wp fun prog w A R s h => by
    obtain ⟨hp, g, d, tk, os⟩ := s
    obtain ⟨hl, h⟩ := h
    have f1 := AutoSeq1.idx_int
    wp_walk using wpAny_loadPart' hl
    exact ⟨_, rfl, h⟩
theorem tuple_mul0 (l : Addr) (items : Array Value) (n : Nat) (dd : Option Addr) (sl : Array (Option Value)) (u : Tok) (hne : items.isEmpty = false) :
    Meets (Builtin.«tuple.__mul__» ⟨[.ref l, .int 0 u], []⟩) (fun _ R s => s.heap.get? l = some { cls := .type "tuple", dict := dd, data := .seq items n, slots := sl } ∧
      R (.ok (.ret (Value.ref s.heap.objs.size))) { s with heap := s.heap.push { cls := Value.type "tuple", data := Data.seq #[] }, toks := s.toks }) :=
  .of_wp fun prog w A R s h => by
    obtain ⟨hp, g, d, tk, os⟩ := s
    obtain ⟨hl, h⟩ := h
    have f1 := AutoSeq1.idx_int
    wp_walk using wpAny_loadPart' hl
    exact ⟨_, rfl, h⟩
section
variable {X : Cx} {ca : Ca}
def rRep01 (K : PySem.W.Frag) : R2 := fun x y H Q => ∃ l k xs, x = .ref l ∧ y = .int k ∧ SqT K H l xs ∧ xs ≠ [] ∧ ((k = 1 ∧ Q (.ref l) H) ∨ (k = 0 ∧ ∀ p, H p = none → Q (.ref p) (upd H p (.tup []))))
theorem op_rep01 : OpR X (binaryOp .Mult) (rRep01 X.K) := by
  intro pins s σ H x y v u Q I rx ry h
  obtain ⟨l, k, xs, rfl, rfl, hT, hne, q⟩ := h
  cases rx
  obtain ⟨t, rfl⟩ := ry
  obtain ⟨its, r, ⟨⟨cls, dd, data, sl⟩, ho, hc, n, hd⟩, hs⟩ := I.tuple hT
  simp only at hc hd
  subst hc hd
  have hle : its.length = xs.length := r.length.symm
  have hi : its.toArray.isEmpty = false := by
    cases its with
    | nil => exact absurd (List.eq_nil_of_length_eq_zero hle.symm) hne
    | cons a b => rfl
  rcases q with ⟨rfl, q⟩ | ⟨rfl, q⟩
  · exact wpAny_binaryOp_repeat_ref (T := "tuple") (U := "int") (by decide) ⟨_, ho, rfl⟩ (fun s' => typeIs_int s' 1 t) noFill_tuple_mul F.fills_int_mul F.slot_int_rmul repeat_tuple F.slot_int_index.lookup
      (call_meets F.slot_int_rmul (typeIs_int s 1 t) F.entry_int_rmul (F.args_int_rmul_2 _ _) (int_rmul_tuple 1 t l its.toArray n dd sl)
        ⟨ho, rfl, ⟨_, ho, rfl⟩, call_meets F.slot_tuple_mul ⟨_, ho, rfl⟩ F.entry_tuple_mul (F.args_tuple_mul_2 _ _) (tuple_mul1 l its.toArray n dd sl t) ⟨ho, ⟨.ref l, H, I, rfl, q⟩⟩⟩)
  · refine wpAny_binaryOp_repeat_ref (T := "tuple") (U := "int") (by decide) ⟨_, ho, rfl⟩ (fun s' => typeIs_int s' 0 t) noFill_tuple_mul F.fills_int_mul F.slot_int_rmul repeat_tuple F.slot_int_index.lookup
      (call_meets F.slot_int_rmul (typeIs_int s 0 t) F.entry_int_rmul (F.args_int_rmul_2 _ _) (int_rmul_tuple 0 t l its.toArray n dd sl)
        ⟨ho, rfl, ⟨_, ho, rfl⟩, call_meets F.slot_tuple_mul ⟨_, ho, rfl⟩ F.entry_tuple_mul (F.args_tuple_mul_2 _ _) (tuple_mul0 l its.toArray n dd sl t hi) ⟨ho, ?_⟩⟩)
    refine ⟨.ref s.heap.objs.size, _, I.laid (t' := s.toks) (o := .tup []) (fun b ob q => Heap.get?_push_of_some _ q) (Nat.le_refl _) ?_, rfl, q _ (I.hok.fresh (Nat.le_refl _))⟩
    exact ⟨by rw [sizeLine_eq]; decide, [], .nil, IsTup.new _ _⟩
theorem op_mulStr : OpR X (binaryOp .Mult) (fun x y H Q => ∃ i k, x = .str i ∧ y = .int k ∧ 2 ≤ k ∧ k ≤ 1000 ∧ 1 ≤ i.length ∧ i.length ≤ 1000 ∧ Q (.str (repS' i k.toNat)) H) := by
  intro pins s σ H x y v u Q I rx ry h
  obtain ⟨i, k, rfl, rfl, h1, h2, h3, h4, q⟩ := h
  obtain ⟨t, rfl⟩ := rx
  obtain ⟨t', rfl⟩ := ry
  exact mul_str2 h1 h2 h3 h4 ⟨.str (repS' i k.toNat), H, I.tok _, ⟨_, rfl⟩, q⟩
theorem op_mulH : OpR X (binaryOp .Mult) (rB (gv X ca) mulH) := by
  intro pins s σ H x y v u Q I rx ry ⟨F, Gx, σ', ρ, oa, ob, S1, S2, res, st, ra, rb, e, yd⟩
  unfold mulH at e
  split at e
  · split at e
    · rename_i hc
      cases e
      cases ra.strV; cases rb.intV
      exact op_mulStr pins s σ H _ _ v u Q I rx ry ⟨_, _, rfl, rfl, hc.1, hc.2.1, hc.2.2.1, hc.2.2.2, yd.val st repS⟩
    · cases e
  · split at e
    · rename_i ds k hc
      cases e
      cases rb.intV
      obtain ⟨a, vs, rfl, qa, rva⟩ := dsT_ok st.le ra (ds := ds) rfl
      have la := rva.length
      have hvs : vs ≠ [] := fun z => by rw [z] at la; simp at la; omega
      by_cases k1 : k = 1
      · subst k1
        rw [show (List.replicate (1 : Int).toNat ds).flatten = ds by simp] at yd
        rw [RepO] at ra
        exact op_rep01 pins s σ H _ _ v u Q I rx ry ⟨a, _, vs, rfl, rfl, qa, hvs, .inl ⟨rfl, yd.val st ra⟩⟩
      · by_cases k0 : k = 0
        · subst k0
          exact op_rep01 pins s σ H _ _ v u Q I rx ry ⟨a, _, vs, rfl, rfl, qa, hvs, .inr ⟨rfl, yd.tup st (rva.rep 0)⟩⟩
        · exact op_repT pins s σ H _ _ v u Q I rx ry ⟨a, _, vs, rfl, rfl, qa, hvs, by omega, hc.2.1, by omega, yd.tup st (rva.rep _)⟩
    · cases e
  · cases e
end
end PF

set_option Elab.async false
set_option linter.all false
set_option maxRecDepth 100000
set_option maxHeartbeats 1000000
namespace PF
open PySem PySem.Spec PyProof.Rows L2
/-! ### -n, and > of tuples -/
section
variable {X : Cx} {ca : Ca} {W : WX} {pos p1 : Pos} {k : Nat}
theorem e_negc {n : Int} : PE X (.UnaryOp .USub (.Constant (.int n) k p1) pos) (T (gv X ca) W (M.pure (.val (.int (-n))))) :=
  PE.imp (pe_un un_neg pe_int) fun σ H Q ⟨F, Gx, ρ, st, q⟩ => ⟨n, rfl, q.pure H F (Le.refl F) _ (st.ofVal repI)⟩
def tupK : D → Bool
  | .tup _ => true
  | _ => false
def gtD : O → O → Option Bool
  | .val (.tup xs), .val (.tup ys) => if okD 16 (.tup xs) && okD 16 (.tup ys) && PySem.W.alike (toPy (.tup xs)) (toPy (.tup ys)) then some (PySem.W.dataLt (toPy (.tup ys)) (toPy (.tup xs))) else none
  | _, _ => none
theorem op_gtD (hu : X.A.units + 64 < cLine) : OpR X (compareOp .Gt) (rC (gv X ca) gtD) := by
  intro pins s σ H x y v u Q I rx ry ⟨F, oa, ob, S1, S2, b, le, ra, rb, e, q⟩
  unfold gtD at e
  split at e
  · rename_i xs ys
    split at e
    · rename_i hk
      cases e
      rw [Bool.and_eq_true, Bool.and_eq_true] at hk
      obtain ⟨⟨hx, hy⟩, ha⟩ := hk
      obtain ⟨as, r1⟩ := Dp.reads I _ x v (dpO_of 16 (.val (.tup xs)) x S1 le hx ra) rx
      obtain ⟨bs, r2⟩ := Dp.reads I _ y u (dpO_of 16 (.val (.tup ys)) y S2 le hy rb) ry
      exact PySem.W.gt_data r1 r2 ha (by intro z; cases z) (by
        have := (okD_lay 16 _ hx).2
        have h2 : min (toPy (.tup xs)).depth (toPy (.tup ys)).depth ≤ (toPy (.tup xs)).depth := Nat.min_le_left _ _
        show X.A.units + min (toPy (.tup xs)).depth (toPy (.tup ys)).depth < cLine
        omega) ⟨.bl _, H, I, rfl, q⟩
    · cases e
  · cases e
end
end PF

set_option Elab.async false
set_option linter.all false
set_option maxRecDepth 100000
set_option maxHeartbeats 2000000
namespace PF
open PySem PySem.Spec PyProof.Rows L2
/-! ### raise -/
/-- Base.__init__(self, ..), Base an own class over ValueError without an __init__ -/
structure SupI (K : PySem.W.Frag) (B : Addr) : Prop where
  rd : PySem.W.readsIn K B (.type "type") = true
  ga : PySem.W.specialIn K (.ref B) "__getattribute__" = some (some (.builtin "type.__getattribute__"))
  at_ : PySem.W.findCls K (.ref B) (.type "type") "__init__" = some (.val (.builtin "ValueError.__init__"))
def supB (K : PySem.W.Frag) (B : Addr) : Bool := PySem.W.readsIn K B (.type "type") && (decide (PySem.W.specialIn K (.ref B) "__getattribute__" = some (some (.builtin "type.__getattribute__"))) && (match PySem.W.findCls K (.ref B) (.type "type") "__init__" with | some (.val (.builtin n)) => n == "ValueError.__init__" | _ => false))
theorem supB_ok {K : PySem.W.Frag} {B : Addr} (h : supB K B = true) : SupI K B := by
  unfold supB at h
  rw [Bool.and_eq_true, Bool.and_eq_true, decide_eq_true_eq] at h
  obtain ⟨h1, h2, h3⟩ := h
  refine ⟨h1, h2, ?_⟩
  split at h3
  · rename_i n q
    rw [q, show n = "ValueError.__init__" from by simpa using h3]
  · cases h3
section
variable {X : Cx} {B : Addr} {x : Str} {e : Expr} {es : List Expr} {ta : TA} {p1 p2 pos : Pos}
theorem pe_sup {pl : Sem Bool} (S : SupI X.K B) (hm : X.mg x = some (.ref B)) (ha : PA X (e :: es) ta) (hg : Gl X x := by rfl) (hdb : (x == ("__debug__" : Str)) = false := by decide)
    (hst : starEach (e :: es) X.env = (false, eval e X.env) :: starEach es X.env := by rfl) (hno : (backTo pos (starEach es X.env)).any (·.1) = false := by rfl)
    (hev : eval (.Call (.Attribute (.Name x p1) "__init__" p2) (e :: es) [] pos) X.env = (do
      let ov ← eval (.Name x p1) X.env
      standAt p2.atName
      let (f, first) ← holding [ov] (getMethod ov "__init__" pl)
      callWith pos f first (backTo pos (starEach (e :: es) X.env)) (backToKw pos (keywordEach [] X.env))) := by rfl) :
    PE X (.Call (.Attribute (.Name x p1) "__init__" p2) (e :: es) [] pos) (tVeI X.K ta) := by
  refine ⟨fun pins s σ H Q I hq => ?_⟩
  refine PySem.W.methodCall_KW (ld_glob I hg hm ?_ hdb) hev
  refine PySem.W.method_cls I.kIn S.ga (PySem.W.cls_value I.kIn S.rd S.at_ rfl ?_)
  show wpAny _ _ (callWith pos (Value.builtin "ValueError.__init__") [] (backTo pos (starEach (e :: es) X.env)) []) _ _ _
  refine callWith_method1 (thn (ha.run pos pins _ σ H _ (I.tok _) hq) fun us s1 hh => ?_) hst hno
  obtain ⟨vs, H1, I1, rv, a, C, ws, rfl, hl, T, ea, q⟩ := hh
  cases rv with
  | @cons _ u0 _ ur ra rw' =>
    have e0 : u0 = Value.ref a := ra
    subst e0
    refine oinit_ok T I1 ea ?_ fun s' J => ⟨.non, H1, J, rfl, q⟩
    have := Paired.length rw'
    rw [sizeLine_eq]
    omega
end
/-- what the __init__ of an own exception promises: the fields, the last one first -/
def spX (K : PySem.W.Frag) (ns : List Str) : Sp := fun vs H Q E => ∃ (a C : Addr) (ws : List V), vs = .ref a :: ws ∧ ws.length = ns.length ∧ OexC K C ∧ (∀ f ∈ ns, PySem.W.findIn K (.ref C) f = some none) ∧ H a = some (exo a C none) ∧
  ∀ dx, H dx = none → dx ≠ a → Q .non (upd (upd H dx (exd dx (ns.zip ws).reverse)) a (exo a C (some dx)))
/-- an own exception with an __init__ -/
structure OwnX (P : Program) (w : World) (K : PySem.W.Frag) (mg : Str → Option Value) (base : Heap) (ca : Ca) (C : Nat) (x : Str) (ns : List Str) : Prop where
  ex : ∃ fI fd ps, mg x = some (.ref (ca C)) ∧ OexC K (ca C) ∧ PySem.W.findIn K (.ref (ca C)) "__init__" = some (some (.ref fI)) ∧ PySem.W.typeIn K (.ref fI) = some (.type "function") ∧ Binds K fd ps [] ∧ FnOk P w K mg base (L2.CX P w) 1 fI fd ps (spX K ns) ∧ (∀ f ∈ ns, PySem.W.findIn K (.ref (ca C)) f = some none) ∧ 0 < ns.length
/-- .. without one -/
structure OwnX0 (K : PySem.W.Frag) (mg : Str → Option Value) (ca : Ca) (C : Nat) (x : Str) : Prop where
  at_ : mg x = some (.ref (ca C))
  ex : PySem.W.excIn K (ca C) [.type "ValueError", .type "Exception", .type "BaseException", .type "object"] "ValueError.__new__" = true
  kp : PySem.W.keepIn K (.ref (ca C)) = true
  sb : PySem.W.subIn K (.ref (ca C)) (.type "BaseException") = some true
  ty : PySem.W.typeIn K (.ref (ca C)) = some (.type "type")
def raiseF (C : Nat) (ns : List Str) (fs : M (List O)) : M Out := fs.bind fun os => if os.length = ns.length ∧ ns.length ≤ 900 then M.raise ⟨C, ns.reverse, (fzs os).reverse⟩ else M.stuck
theorem upd_end {H : Hp} {a dx : Addr} {u1 u2 u3 u4 : HO} (ha : H a = none) (hne : dx ≠ a) : upd (L2.del (upd (upd (upd H a u1) dx u2) a u3) a) dx u4 = upd H dx u4 := by
  funext b
  by_cases h1 : b = dx
  · subst h1; rw [upd_same, upd_same]
  · rw [upd_ne h1, upd_ne h1]
    by_cases h2 : b = a
    · subst h2; rw [del_same, ha]
    · rw [del_ne h2, upd_ne h2, upd_ne h1, upd_ne h2]
theorem zip_rev {α β : Type} : ∀ {as : List α} {bs : List β}, as.length = bs.length → as.reverse.zip bs.reverse = (as.zip bs).reverse
  | [], [], _ => rfl
  | a :: as, b :: bs, h => by
    have h : as.length = bs.length := by simpa using h
    rw [List.reverse_cons, List.reverse_cons, List.zip_append (by simpa using h), zip_rev h, List.zip_cons_cons, show (a :: as).zip (b :: bs) = (a, b) :: as.zip bs from rfl, List.reverse_cons]
    rfl
  | [], _ :: _, h => by cases h
  | _ :: _, [], h => by cases h
theorem fzs_len : ∀ os : List O, (fzs os).length = os.length
  | [] => by rw [fzs]; rfl
  | o :: os => by rw [fzs, List.length_cons, List.length_cons, fzs_len os]
theorem RepVs.rev {g : Gv} {F : Hp} : ∀ {ds : List D} {vs : List V}, RepVs g F ds vs → RepVs g F ds.reverse vs.reverse := by
  have app : ∀ {ds ds' : List D} {vs vs' : List V}, RepVs g F ds vs → RepVs g F ds' vs' → RepVs g F (ds ++ ds') (vs ++ vs') := by
    intro ds
    induction ds with
    | nil => intro ds' vs vs' h h'; rw [RepVs] at h; subst h; exact h'
    | cons d ds ih =>
      intro ds' vs vs' h h'
      rw [RepVs] at h
      obtain ⟨v, r, rfl, h1, h2⟩ := h
      rw [List.cons_append, List.cons_append, RepVs]
      exact ⟨v, _, rfl, h1, ih h2 h'⟩
  intro ds
  induction ds with
  | nil => intro vs h; rw [RepVs] at h; subst h; rw [List.reverse_nil, RepVs]; rfl
  | cons d ds ih =>
    intro vs h
    rw [RepVs] at h
    obtain ⟨v, r, rfl, h1, h2⟩ := h
    rw [List.reverse_cons, List.reverse_cons]
    exact app (ih h2) (by rw [RepVs]; exact ⟨v, [], rfl, h1, by rw [RepVs]⟩)
section
variable {W : WX} {X : Cx} {ca : Ca} {pn : List Nat} {C j : Nat} {x m : Str} {ns : List Str} {p p2 pos rpos : Pos} {e : Expr} {es : List Expr} {fs : M (List O)} {n : Nat}
theorem passF {CX : CXT} (P : Program) (w : World) : Passes (L2.CX X.prog X.w) X (fun _ _ _ => False) := by
  intro pins s σ H e s' I h
  obtain ⟨_, _, _, _, _, _, _, _, _, _, _, _, z⟩ := h
  exact z.elim
theorem s_raise0 (Ow : OwnX0 X.K X.mg ca C x) (hc : X.calm = true) (tk : Takes X W) (hg : Gl X x := by rfl) (hdb : (x == ("__debug__" : Str)) = false := by decide) :
    PS X (.Raise (some (.Call (.Name x p) [.Constant (.str m) n p2] [] pos)) none rpos) (Ts (gv X ca) W pn (raiseF C [] nilA)) :=
  PS.imp (ps_raise hc tk (pmk_own PySem.F.excBase_ValueError Ow.ex Ow.at_ Ow.kp (raises_own Ow.sb Ow.ty) hg hdb)) fun D σ H ⟨F, Gx, ρ, st, r⟩ => by
    have r2 : Rs (gv X ca) W pn (M.raise ⟨C, [], []⟩ : M Out) σ F Gx ρ _ := r
    exact r2 H F σ none (Le.refl F) (Pin.refl σ) st (.inl ⟨rfl, rfl⟩)
theorem s_raiseX (Ow : OwnX X.prog X.w X.K X.mg X.base ca C x ns) (hc : X.calm = true) (hr : Room j X.A) (hj : 2 ≤ j) (tk : Takes X W) (ha : PA X (e :: es) (TL (gv X ca) W fs)) (hg : Gl X x := by rfl) (hdb : (x == ("__debug__" : Str)) = false := by decide)
    (he : starEach (e :: es) X.env = (false, eval e X.env) :: starEach es X.env := by rfl) (hpl : (backTo pos (starEach es X.env)).any (·.1) = false := by rfl) :
    PS X (.Raise (some (.Call (.Name x p) (e :: es) [] pos)) none rpos) (Ts (gv X ca) W pn (raiseF C ns fs)) := by
  obtain ⟨fI, fd, ps, hm, T, iC, tI, hb, Fo, hno, h0⟩ := Ow.ex
  refine PS.imp (ps_raise hc tk (pmk_oex T iC tI Fo (hr.mono hj) hb .nil (passF (CX := L2.CX X.prog X.w) X.prog X.w) hg hm ha hdb he hpl)) fun D σ H ⟨F, Gx, ρ, st, r⟩ => ?_
  refine ⟨F, Gx, ρ, st, r.expr.mono fun os H1 F1 ρ1 le r2 vs hl st1 => ?_⟩
  split at r2
  · rename_i hk
    obtain ⟨F2, le2, g2, rv⟩ := Good.freezeL (B := slL σ ρ1) hl st1.gd
    have st2 : StG (gv X ca) H1 F2 Gx σ ρ1 [] := ⟨st1.wf, st1.len, g2⟩
    have r3 : Rs (gv X ca) W pn (M.raise ⟨C, ns.reverse, (fzs os).reverse⟩ : M Out) σ F1 Gx ρ1 _ := r2
    refine ⟨by omega, fun a hna => ⟨a, ca C, vs, by rw [List.append_nil], by omega, T, hno, upd_same, fun dx hdx hne => ⟨rfl, dx, (ns.zip vs).reverse, upd_same, ?_, ?_, ?_⟩⟩⟩
    · rw [upd_ne hne, upd_same]
    · rw [upd_ne hne] at hdx; exact hdx
    · rw [upd_ne hne] at hdx
      rw [upd_end hna hne]
      obtain ⟨le3, st3⟩ := st2.newF (u := .xd (ns.zip vs).reverse) hdx
      refine r3 _ _ σ (some dx) (le2.trans le3) (Pin.refl σ) st3 (.inr ⟨dx, vs.reverse, rfl, ?_, ?_, RepVs.mono _ le3 _ _ rv.rev⟩)
      · rw [upd_same]
        congr 2
        exact (zip_rev (by omega)).symm
      · rw [List.length_reverse, List.length_reverse]; omega
  · obtain ⟨_, _, e⟩ := r2.run; cases e
end
end PF

set_option Elab.async false
set_option linter.all false
set_option maxRecDepth 100000
set_option maxHeartbeats 2000000
namespace PF
open PySem PySem.Spec PyProof.Rows L2
/-! ### the __init__ of an own exception -/
/-- Base.__init__(self, ".."); self.f = f -/
def tX1 (K : PySem.W.Frag) (m f : Str) : L2.TS := tSeq (tDrop (tVeI K (tCons (tVar 0) (tCons (tC (.str m)) tNil)))) (tOst K f (tVar 0) (tVar 1))
def tX2 (K : PySem.W.Frag) (m f g : Str) : L2.TS := tSeq (tDrop (tVeI K (tCons (tVar 0) (tCons (tC (.str m)) tNil)))) (tSeq (tOst K f (tVar 0) (tVar 1)) (tOst K g (tVar 0) (tVar 2)))
theorem upd_swap {H : Hp} {a dx : Addr} {u1 u2 u3 : HO} (hne : dx ≠ a) : upd (upd (upd H dx u1) a u2) dx u3 = upd (upd H dx u3) a u2 := by
  funext b
  by_cases h1 : b = dx
  · subst h1; rw [upd_same, upd_ne hne, upd_same]
  · rw [upd_ne h1]
    by_cases h2 : b = a
    · subst h2; rw [upd_same, upd_same]
    · rw [upd_ne h2, upd_ne h2, upd_ne h1, upd_ne h1]
theorem x1_ok {K : PySem.W.Frag} {m f : Str} {N : List Str} {vs : List V} {H : Hp} {Q : VK} {E : XK} (h : spX K [f] vs H Q E) : tX1 K m f { nx := fun _ H' => Q .non H', rt := Q } (L2.start N vs) H := by
  obtain ⟨a, C, ws, rfl, hl, T, hno, ha, q⟩ := h
  match ws, hl with
  | [v], _ => exact ⟨.ref a, rfl, a, C, [.str m], rfl, by simp, T, ha, v, rfl, .ref a, rfl, a, C, rfl, T, hno f (by simp), .inl ⟨ha, fun dx h1 h2 => q dx h1 h2⟩⟩
theorem x2_ok {K : PySem.W.Frag} {m f g : Str} {N : List Str} {vs : List V} {H : Hp} {Q : VK} {E : XK} (h : spX K [f, g] vs H Q E) : tX2 K m f g { nx := fun _ H' => Q .non H', rt := Q } (L2.start N vs) H := by
  obtain ⟨a, C, ws, rfl, hl, T, hno, ha, q⟩ := h
  match ws, hl with
  | [v, w], _ =>
    refine ⟨.ref a, rfl, a, C, [.str m], rfl, by simp, T, ha, v, rfl, .ref a, rfl, a, C, rfl, T, hno f (by simp), .inl ⟨ha, fun dx h1 h2 => ?_⟩⟩
    refine ⟨w, rfl, .ref a, rfl, a, C, rfl, T, hno g (by simp), .inr ⟨dx, [(f, v)], upd_same, by rw [upd_ne h2, upd_same], by simp, ?_⟩⟩
    show Q .non _
    rw [upd_swap h2]
    exact q dx h1 h2
section
variable {P : Program} {w : World} {K : PySem.W.Frag} {mg : Str → Option Value} {base : Heap} {x qual : Str} {params : Arguments} {body : List Stmt} {scope : Scope} {f : Addr} {fd : FuncData} {N ps : List Str} {m f1 f2 : Str}
theorem d_okX1 (Fu : FunD K x qual params body scope [] [] f fd) (S : FnScope N ps scope) (hl : ps.length = 2)
    (hbody : ∀ (cdv : Value) (A : Around) (outer : List Env) (s : Shared) (H : Hp) (E : XK), PSs (cxOf (L2.CX P w) P w K mg base N qual scope f cdv A outer s H E) body (tX1 K m f1)) : FnOk P w K mg base (L2.CX P w) 1 f fd ps (spX K [f1]) :=
  Fu.ok S (fun vs H Q E ⟨a, C, ws, e, h, _⟩ => by rw [e, List.length_cons, h, hl]; rfl) fun cdv A outer s H vs Q E _ h => ⟨_, hbody cdv A outer s H E, x1_ok h⟩
theorem d_okX2 (Fu : FunD K x qual params body scope [] [] f fd) (S : FnScope N ps scope) (hl : ps.length = 3)
    (hbody : ∀ (cdv : Value) (A : Around) (outer : List Env) (s : Shared) (H : Hp) (E : XK), PSs (cxOf (L2.CX P w) P w K mg base N qual scope f cdv A outer s H E) body (tX2 K m f1 f2)) : FnOk P w K mg base (L2.CX P w) 1 f fd ps (spX K [f1, f2]) :=
  Fu.ok S (fun vs H Q E ⟨a, C, ws, e, h, _⟩ => by rw [e, List.length_cons, h, hl]; rfl) fun cdv A outer s H vs Q E _ h => ⟨_, hbody cdv A outer s H E, x2_ok h⟩
end
section
variable {X : Cx} {B : Addr} {x : Str} {m f1 f2 n0 n1 n2 : Str} {j : Nat} {p1 p2 p3 p4 p5 p6 p7 p8 p9 p10 p11 p12 p13 : Pos}
theorem b_x1 (S : SupI X.K B) (hm : X.mg x = some (.ref B)) (h0 : PE X (.Name n0 p3) (tVar 0)) (h0' : PE X (.Name n0 p8) (tVar 0)) (h1 : PE X (.Name n1 p7) (tVar 1)) {b : Stmt} (he : PS X b (tDrop (tVeI X.K (tCons (tVar 0) (tCons (tC (.str m)) tNil)))))
    (hs : swapsWith (.Name n1 p7) (some (.Attribute (.Name n0 p8) f1 p9)) p10.line X.env = pure false := by rfl) : PSs X [b, .Assign [.Attribute (.Name n0 p8) f1 p9] (.Name n1 p7) p10] (tX1 X.K m f1) :=
  pss_cons he (pss_one (ps_ost h0' h1 hs))
end
end PF

set_option Elab.async false
set_option linter.all false
set_option maxRecDepth 100000
set_option maxHeartbeats 2000000
namespace PF
open PySem PySem.Spec PyProof.Rows L2
/-! ### try .. except -/
mutual
/-- no exception in it -/
def xf : D → Bool
  | .exn _ _ _ => false
  | .tup ds => xfs ds
  | .lst ds => xfs ds
  | .dct _ ks ds => xfs ks && xfs ds
  | .ins _ _ ds => xfs ds
  | _ => true
def xfs : List D → Bool
  | [] => true
  | d :: ds => xf d && xfs ds
end
mutual
def xfO : O → Bool
  | .val d => xf d
  | .lst os => xfOs os
  | .dct _ ks os => xfs ks && xfOs os
  | .ins _ _ os => xfOs os
def xfOs : List O → Bool
  | [] => true
  | o :: os => xfO o && xfOs os
end
section
variable {P : Program} {w : World} {K : PySem.W.Frag} {at_ : Nat → Addr} {tb : List (Addr × Str)} {x y : Option (Addr × Option Addr × Nat)}
mutual
theorem conv_V {F : Hp} : ∀ (d : D) (v : V), xf d = true → RepV ⟨P, w, K, ⟨at_, tb, x⟩⟩ F d v → RepV ⟨P, w, K, ⟨at_, tb, y⟩⟩ F d v
  | .non, v, _, r => by rw [RepV] at r ⊢; exact r
  | .bl _, v, _, r => by rw [RepV] at r ⊢; exact r
  | .int _, v, _, r => by rw [RepV] at r ⊢; exact r
  | .str _, v, _, r => by rw [RepV] at r ⊢; exact r
  | .scr _, v, _, r => by rw [RepV] at r ⊢; exact r
  | .ty _, v, _, r => by rw [RepV] at r ⊢; exact r
  | .exn _ _ _, v, h, r => by rw [xf] at h; cases h
  | .tup ds, v, h, r => by
    rw [xf] at h
    rw [RepV] at r ⊢
    obtain ⟨a, vs, e, q, rs⟩ := r
    exact ⟨a, vs, e, q, conv_Vs ds vs h rs⟩
  | .lst ds, v, h, r => by
    rw [xf] at h
    rw [RepV] at r ⊢
    obtain ⟨a, vs, e, q, rs⟩ := r
    exact ⟨a, vs, e, q, conv_Vs ds vs h rs⟩
  | .dct false ks ds, v, h, r => by
    rw [xf, Bool.and_eq_true] at h
    rw [RepV] at r ⊢
    obtain ⟨a, us, e, q, rs⟩ := r
    exact ⟨a, us, e, q, conv_Vs ds us h.2 rs⟩
  | .dct true ks ds, v, h, r => by
    rw [xf, Bool.and_eq_true] at h
    rw [RepV] at r ⊢
    obtain ⟨a, xs, e, e2, e3, e4, e5, rs⟩ := r
    exact ⟨a, xs, e, conv_Vs ks _ h.1 e2, e3, e4, e5, conv_Vs ds _ h.2 rs⟩
  | .ins c ns ds, v, h, r => by
    rw [xf] at h
    rw [RepV] at r ⊢
    obtain ⟨a, dx, vs, e, l, q, rs⟩ := r
    exact ⟨a, dx, vs, e, l, q, conv_Vs ds vs h rs⟩
theorem conv_Vs {F : Hp} : ∀ (ds : List D) (vs : List V), xfs ds = true → RepVs ⟨P, w, K, ⟨at_, tb, x⟩⟩ F ds vs → RepVs ⟨P, w, K, ⟨at_, tb, y⟩⟩ F ds vs
  | [], vs, _, r => by rw [RepVs] at r ⊢; exact r
  | d :: ds, vs, h, r => by
    rw [xfs, Bool.and_eq_true] at h
    rw [RepVs] at r ⊢
    obtain ⟨v, u, e, r1, r2⟩ := r
    exact ⟨v, u, e, conv_V d v h.1 r1, conv_Vs ds u h.2 r2⟩
end
mutual
theorem free_V {F : Hp} : ∀ (d : D) (v : V), RepV ⟨P, w, K, ⟨at_, tb, none⟩⟩ F d v → xf d = true
  | .non, v, r => by simp [xf]
  | .bl _, v, r => by simp [xf]
  | .int _, v, r => by simp [xf]
  | .str _, v, r => by simp [xf]
  | .scr _, v, r => by simp [xf]
  | .ty _, v, r => by simp [xf]
  | .exn _ _ _, v, r => by rw [RepV] at r; obtain ⟨_, e, _⟩ := r; cases e
  | .tup ds, v, r => by
    rw [RepV] at r
    obtain ⟨a, vs, e, q, rs⟩ := r
    rw [xf]; exact free_Vs ds vs rs
  | .lst ds, v, r => by
    rw [RepV] at r
    obtain ⟨a, vs, e, q, rs⟩ := r
    rw [xf]; exact free_Vs ds vs rs
  | .dct false ks ds, v, r => by
    rw [RepV] at r
    obtain ⟨a, us, e, q, rs⟩ := r
    rw [xf, Bool.and_eq_true]
    refine ⟨?_, free_Vs ds us rs⟩
    have key : ∀ kk : List Key, xfs (kk.map keyD) = true := fun kk => by
      induction kk with
      | nil => rw [List.map_nil, xfs]
      | cons k kk ih => rw [List.map_cons, xfs, ih]; cases k <;> simp [keyD, xf]
    have key2 : ∀ zs : List (Str × V), xfs (zs.map fun z => D.str z.1) = true := fun zs => by
      induction zs with
      | nil => rw [List.map_nil, xfs]
      | cons k kk ih => rw [List.map_cons, xfs, ih]; simp [xf]
    rcases q with ⟨kk, rfl, _⟩ | ⟨_, _, zs, _, rfl, _⟩
    · exact key kk
    · exact key2 zs
  | .dct true ks ds, v, r => by
    rw [RepV] at r
    obtain ⟨a, xs, e, e2, e3, e4, e5, rs⟩ := r
    rw [xf, Bool.and_eq_true]; exact ⟨free_Vs ks _ e2, free_Vs ds _ rs⟩
  | .ins c ns ds, v, r => by
    rw [RepV] at r
    obtain ⟨a, dx, vs, e, l, q, rs⟩ := r
    rw [xf]; exact free_Vs ds vs rs
theorem free_Vs {F : Hp} : ∀ (ds : List D) (vs : List V), RepVs ⟨P, w, K, ⟨at_, tb, none⟩⟩ F ds vs → xfs ds = true
  | [], vs, r => by rw [xfs]
  | d :: ds, vs, r => by
    rw [RepVs] at r
    obtain ⟨v, u, e, r1, r2⟩ := r
    rw [xfs, free_V d v r1, free_Vs ds u r2]; rfl
end
mutual
theorem conv_O {H F : Hp} : ∀ (o : O) (v : V) (S : Addr → Prop), xfO o = true → RepO ⟨P, w, K, ⟨at_, tb, x⟩⟩ H F o v S → RepO ⟨P, w, K, ⟨at_, tb, y⟩⟩ H F o v S
  | .val d, v, S, h, r => by
    rw [xfO] at h
    rw [RepO] at r ⊢
    exact conv_V d v h r
  | .lst os, v, S, h, r => by
    rw [xfO] at h
    rw [RepO] at r ⊢
    obtain ⟨a, vs, e, sa, q, rs⟩ := r
    exact ⟨a, vs, e, sa, q, conv_Os os vs _ h rs⟩
  | .dct false ks os, v, S, h, r => by
    rw [xfO, Bool.and_eq_true] at h
    rw [RepO] at r ⊢
    obtain ⟨a, us, e, sa, q, rs⟩ := r
    exact ⟨a, us, e, sa, q, conv_Os os us _ h.2 rs⟩
  | .dct true ks os, v, S, h, r => by
    rw [xfO, Bool.and_eq_true] at h
    rw [RepO] at r ⊢
    obtain ⟨a, xs, e, sa, e2, e3, e4, e5, rs⟩ := r
    exact ⟨a, xs, e, sa, conv_Vs ks _ h.1 e2, e3, e4, e5, conv_Os os _ _ h.2 rs⟩
  | .ins c ns os, v, S, h, r => by
    rw [xfO] at h
    rw [RepO] at r ⊢
    obtain ⟨a, dx, vs, e, sa, l, q, rs⟩ := r
    exact ⟨a, dx, vs, e, sa, l, q, conv_Os os vs _ h rs⟩
theorem conv_Os {H F : Hp} : ∀ (os : List O) (vs : List V) (S : Addr → Prop), xfOs os = true → RepOs ⟨P, w, K, ⟨at_, tb, x⟩⟩ H F os vs S → RepOs ⟨P, w, K, ⟨at_, tb, y⟩⟩ H F os vs S
  | [], vs, S, _, r => by rw [RepOs] at r ⊢; exact r
  | o :: os, vs, S, h, r => by
    rw [xfOs, Bool.and_eq_true] at h
    rw [RepOs] at r ⊢
    obtain ⟨v, u, S1, S2, e, sp, r1, r2⟩ := r
    exact ⟨v, u, S1, S2, e, sp, conv_O o v S1 h.1 r1, conv_Os os u S2 h.2 r2⟩
end
mutual
theorem free_O {H F : Hp} : ∀ (o : O) (v : V) (S : Addr → Prop), RepO ⟨P, w, K, ⟨at_, tb, none⟩⟩ H F o v S → xfO o = true
  | .val d, v, S, r => by
    rw [RepO] at r
    rw [xfO]; exact free_V d v r
  | .lst os, v, S, r => by
    rw [RepO] at r
    obtain ⟨a, vs, e, sa, q, rs⟩ := r
    rw [xfO]; exact free_Os os vs _ rs
  | .dct false ks os, v, S, r => by
    rw [RepO] at r
    obtain ⟨a, us, e, sa, ⟨kk, rfl, _⟩, rs⟩ := r
    have key : ∀ kk : List Key, xfs (kk.map keyD) = true := fun kk => by
      induction kk with
      | nil => rw [List.map_nil, xfs]
      | cons k kk ih => rw [List.map_cons, xfs, ih]; cases k <;> simp [keyD, xf]
    rw [xfO, key kk, free_Os os us _ rs]; rfl
  | .dct true ks os, v, S, r => by
    rw [RepO] at r
    obtain ⟨a, xs, e, sa, e2, e3, e4, e5, rs⟩ := r
    rw [xfO, free_Vs ks _ e2, free_Os os _ _ rs]; rfl
  | .ins c ns os, v, S, r => by
    rw [RepO] at r
    obtain ⟨a, dx, vs, e, sa, l, q, rs⟩ := r
    rw [xfO]; exact free_Os os vs _ rs
theorem free_Os {H F : Hp} : ∀ (os : List O) (vs : List V) (S : Addr → Prop), RepOs ⟨P, w, K, ⟨at_, tb, none⟩⟩ H F os vs S → xfOs os = true
  | [], vs, S, r => by rw [xfOs]
  | o :: os, vs, S, r => by
    rw [RepOs] at r
    obtain ⟨v, u, S1, S2, e, sp, r1, r2⟩ := r
    rw [xfOs, free_O o v S1 r1, free_Os os u S2 r2]; rfl
end
theorem conv_L {H F : Hp} : ∀ (L : List (V × O)) (S : Addr → Prop), (∀ p ∈ L, xfO p.2 = true) → RepL ⟨P, w, K, ⟨at_, tb, x⟩⟩ H F L S → RepL ⟨P, w, K, ⟨at_, tb, y⟩⟩ H F L S
  | [], _, _, _ => trivial
  | p :: L, S, h, ⟨S1, S2, sp, r1, r2⟩ => ⟨S1, S2, sp, conv_O p.2 p.1 S1 (h p (by simp)) r1, conv_L L S2 (fun q hq => h q (by simp [hq])) r2⟩
theorem free_L {H F : Hp} : ∀ (L : List (V × O)) (S : Addr → Prop), RepL ⟨P, w, K, ⟨at_, tb, none⟩⟩ H F L S → ∀ p ∈ L, xfO p.2 = true
  | [], _, _, p, hp => absurd hp (by simp)
  | q :: L, S, ⟨S1, S2, sp, r1, r2⟩, p, hp => by
    rcases List.mem_cons.mp hp with rfl | hp
    · exact free_O _ _ S1 r1
    · exact free_L L S2 r2 p hp
theorem conv_G {H F Gx : Hp} {L : List (V × O)} (h : ∀ p ∈ L, xfO p.2 = true) (g : Good ⟨P, w, K, ⟨at_, tb, x⟩⟩ H F Gx L) : Good ⟨P, w, K, ⟨at_, tb, y⟩⟩ H F Gx L := by
  obtain ⟨S, t, a, b, c, d, e⟩ := g.ex
  exact ⟨S, t, a, b, c, d, conv_L L S h e⟩
theorem conv_S {H F Gx : Hp} {σ : L2.St} {ρ : Sls} {L : List (V × O)} (h : ∀ p ∈ L ++ slL σ ρ, xfO p.2 = true) (st : StG ⟨P, w, K, ⟨at_, tb, x⟩⟩ H F Gx σ ρ L) : StG ⟨P, w, K, ⟨at_, tb, y⟩⟩ H F Gx σ ρ L := ⟨st.wf, st.len, conv_G h st.gd⟩
theorem free_S {H F Gx : Hp} {σ : L2.St} {ρ : Sls} {L : List (V × O)} (st : StG ⟨P, w, K, ⟨at_, tb, none⟩⟩ H F Gx σ ρ L) : ∀ p ∈ L ++ slL σ ρ, xfO p.2 = true := by
  obtain ⟨S, t, a, b, c, d, e⟩ := st.gd.ex
  exact free_L _ S e
end
theorem slL_mem : ∀ {σ : L2.St} {ρ : Sls} {p : V × O}, p ∈ slL σ ρ → some p.2 ∈ ρ
  | [], ρ, p, h => by cases ρ <;> simp [slL] at h
  | s :: σ, [], p, h => by cases s <;> simp [slL] at h
  | s :: σ, r :: ρ, p, h => by
    cases r with
    | none => rw [slL_none] at h; exact List.mem_cons_of_mem _ (slL_mem h)
    | some o =>
      cases s with
      | none => rw [slL_drop] at h; exact List.mem_cons_of_mem _ (slL_mem h)
      | some v =>
        have h : p ∈ (v, o) :: slL σ ρ := h
        rcases List.mem_cons.mp h with rfl | h
        · exact List.mem_cons_self
        · exact List.mem_cons_of_mem _ (slL_mem h)
def xfR (ρ : Sls) : Bool := ρ.all fun r => match r with | none => true | some o => xfO o
def xfOut : Out → Bool
  | .rt o => xfO o
  | _ => true
/-- try .. except X as n: n is slot i; cov: which classes of exceptions the clause takes -/
def tryX (i : Nat) (cov : Nat → Option Bool) (fb fs : M Out) : M Out := fun ρ => match fb ρ with
  | some (.ex e, ρ1) => match cov e.cls with
    | some true => if i < ρ1.length then (match fs (ρ1.set i (some (.val (.exn e.cls e.ns e.vs)))) with
        | some (.ok out, ρ2) => if xfOut out = true ∧ xfR (ρ2.set i none) = true then some (.ok out, ρ2.set i none) else none
        | _ => none) else none
    | some false => some (.ex e, ρ1)
    | none => none
  | r => r
/-- try .. except X -/
def tryO (cov : Nat → Option Bool) (fb fs : M Out) : M Out := fun ρ => match fb ρ with
  | some (.ex e, ρ1) => match cov e.cls with
    | some true => (match fs ρ1 with
        | some (.ok out, ρ2) => some (.ok out, ρ2)
        | _ => none)
    | some false => some (.ex e, ρ1)
    | none => none
  | r => r
end PF

set_option Elab.async false
set_option linter.all false
set_option maxRecDepth 100000
set_option maxHeartbeats 2000000
namespace PF
open PySem PySem.Spec PyProof.Rows L2
/-! ### the rules of try .. except -/
theorem XAt.rep {P : Program} {w : World} {K : PySem.W.Frag} {at_ : Nat → Addr} {tb : List (Addr × Str)} {F : Hp} {e : Exn} {d : Option Addr} {a : Addr} (h : XAt ⟨P, w, K, ⟨at_, tb, none⟩⟩ F e d) :
    RepV ⟨P, w, K, ⟨at_, tb, some (a, d, e.cls)⟩⟩ F (.exn e.cls e.ns e.vs) (.ref a) := by
  rw [RepV]
  refine ⟨_, rfl, rfl, rfl, ?_⟩
  rcases h with h | ⟨dd, us, h1, h2, h3, h4⟩
  · exact .inl h
  · exact .inr ⟨dd, us, h1, h2, h3, conv_Vs _ _ (free_Vs _ _ h4) h4⟩
theorem xfR_mem {ρ : Sls} (h : xfR ρ = true) {o : O} (ho : some o ∈ ρ) : xfO o = true := by
  unfold xfR at h
  rw [List.all_eq_true] at h
  exact h (some o) ho
section
variable {P : Program} {w : World} {K : PySem.W.Frag} {at_ : Nat → Addr} {tb : List (Addr × Str)} {x : Option (Addr × Option Addr × Nat)} {H F Gx : Hp} {σ : L2.St} {ρ : Sls} {L : List (V × O)}
/-- behind a suite: its slot is empty, no exception is left -/
theorem suite_end {i : Nat} (hx : xfR (ρ.set i none) = true) (hL : ∀ p ∈ L, xfO p.2 = true) (st : StG ⟨P, w, K, ⟨at_, tb, x⟩⟩ H F Gx σ ρ L) : StG ⟨P, w, K, ⟨at_, tb, none⟩⟩ H F Gx (σ.set i none) (ρ.set i none) L := by
  refine conv_S (fun p hp => ?_) (st.emptyS i)
  rcases List.mem_append.mp hp with h | h
  · exact hL p h
  · exact xfR_mem hx (slL_mem h)
theorem unsuite_end {i : Nat} (hx : xfR (ρ.set i none) = true) (hL : ∀ p ∈ L, xfO p.2 = true) (st : StG ⟨P, w, K, ⟨at_, tb, none⟩⟩ H F Gx (σ.set i none) (ρ.set i none) L) : StG ⟨P, w, K, ⟨at_, tb, x⟩⟩ H F Gx (σ.set i none) (ρ.set i none) L := by
  refine conv_S (fun p hp => ?_) st
  rcases List.mem_append.mp hp with h | h
  · exact hL p h
  · exact xfR_mem hx (slL_mem h)
end
def Ca.with (ca : Ca) (a : Addr) (d : Option Addr) (c : Nat) : Ca := ⟨ca.at_, ca.tb, some (a, d, c)⟩
section
variable {W : WX} {X : Cx} {ca : Ca} {pn : List Nat} {x n : Str} {c : Value} {i : Nat} {body suite : List Stmt} {b₀ : Stmt} {np pos pos' : Pos} {cov : Nat → Option Bool} {fb fs : M Out}
theorem s_try_as (h0 : ca.xa = none) (hs : X.stack = X.env :: X.outer) (hf : X.env.frame = some X.env.locals) (hN : X.N.Nodup) (hi : X.N[i]? = some n) (hln : X.env.kindOf n = some .local) (hp : i ∉ pn) (hc : Names X x c) (tk : Takes X W)
    (hcov : ∀ k b, cov k = some b → PySem.W.exmOne X.K (.ref (ca k)) c = some b)
    (hb : ∀ (W : WX) (pn' : List (Addr × Obj)) (xe : Value → Shared → Prop), Takes (X.tr pn' xe) W → PSs (X.tr pn' xe) body (Ts (gv X ca) W pn fb))
    (hsu : ∀ (a : Addr) (oe : Obj) (d : Option Addr) (k : Nat) (pn' : List (Addr × Obj)), cov k = some true → Zc (.ref (ca k)) d oe → (∃ vs, oe.data = .fields vs) → PSs (X.suite a ((a, oe) :: pn')) (b₀ :: suite) (Ts (gv X (ca.with a d k)) W0 pn fs)) :
    PS X (.Try body [.ExceptHandler (some (.Name x np)) (some n) (b₀ :: suite) pos'] [] [] pos) (Ts (gv X ca) W pn (tryX i cov fb fs)) := by
  obtain ⟨at_, tb, xa⟩ := ca
  have h0 : xa = none := h0
  subst h0
  refine PS.imp (ps_try_as (tb := fun W => Ts (gv X ⟨at_, tb, none⟩) W pn fb) (ts := fun a cls d D σ H => ∃ k, cov k = some true ∧ cls = .ref (at_ k) ∧ Ts (gv X (Ca.with ⟨at_, tb, none⟩ a d k)) W0 pn fs D σ H) hs hf hN hi hln hc tk
    (fun W pn' xe tk _ => hb W pn' xe tk) (fun a oe cls d pn' hz hd => ⟨fun pins s σ H D I ⟨k, hk, hcl, h⟩ => (hsu a oe d k pn' hk (by rw [hcl] at hz; exact hz) hd).run pins s σ H D I h⟩)) fun D σ H ⟨F, Gx, ρ, st, r⟩ => ⟨F, Gx, ρ, st, ?_⟩
  unfold Rs tryX at r
  unfold Rs
  cases hfb : fb ρ with
  | none => rw [hfb] at r; exact r
  | some q =>
    obtain ⟨z, ρ1⟩ := q
    cases z with
    | ok out => rw [hfb] at r; exact r
    | ex e =>
      simp only [hfb] at r
      intro H1 F1 σ1 d le p1 st1 hx
      cases hcv : cov e.cls with
      | none => simp only [hcv] at r
      | some b =>
        refine ⟨b, hcov _ _ hcv, fun hb1 a ha => ?_, fun hb1 => ?_⟩
        · subst hb1
          refine ⟨e.cls, hcv, rfl, ?_⟩
          simp only [hcv] at r
          by_cases hl : i < ρ1.length
          · simp only [if_pos hl] at r
            have st2 : StG (gv X (Ca.with ⟨at_, tb, none⟩ a d e.cls)) H1 F1 Gx σ1 ρ1 [] := conv_S (free_S st1) st1
            have st3 := (st2.ofVal (v := .ref a) (d := .exn e.cls e.ns e.vs) hx.rep).store hl
            refine ⟨F1, Gx, _, st3, ?_⟩
            unfold Rs
            cases hfs : fs (ρ1.set i (some (.val (.exn e.cls e.ns e.vs)))) with
            | none => simp only [hfs] at r
            | some q2 =>
              obtain ⟨z2, ρ2⟩ := q2
              cases z2 with
              | ex e2 => simp only [hfs] at r
              | ok out =>
                simp only [hfs] at r
                by_cases hk : xfOut out = true ∧ xfR (ρ2.set i none) = true
                · simp only [if_pos hk] at r
                  intro H2 F2 σ2 le2 p2
                  have p3 : Pin pn σ (σ2.set i none) := (p1.trans (Pin.set hp)).trans (p2.trans (Pin.set hp))
                  have r2 := r H2 F2 (σ2.set i none) (le.trans le2) p3
                  have hL0 : ∀ p ∈ ([] : List (V × O)), xfO p.2 = true := fun p hp => absurd hp (by simp)
                  cases out with
                  | nx => exact fun st4 => r2 (suite_end hk.2 hL0 st4)
                  | bk => exact fun st4 => r2 (suite_end hk.2 hL0 st4)
                  | ct => exact fun st4 => r2 (suite_end hk.2 hL0 st4)
                  | rt o => exact fun v st4 => r2 v (suite_end hk.2 (fun p hp => by rw [List.mem_singleton.mp hp]; exact hk.1) st4)
                · simp only [if_neg hk] at r
          · simp only [if_neg hl] at r
        · subst hb1
          simp only [hcv] at r
          exact r H1 F1 σ1 d le p1 st1 hx
theorem s_try_only (hs : X.stack = X.env :: X.outer) (hf : X.env.frame = some X.env.locals) (hc : Names X x c) (tk : Takes X W)
    (hcov : ∀ k b, cov k = some b → PySem.W.exmOne X.K (.ref (ca k)) c = some b)
    (hb : ∀ (W : WX) (pn' : List (Addr × Obj)) (xe : Value → Shared → Prop), Takes (X.tr pn' xe) W → PSs (X.tr pn' xe) body (Ts (gv X ca) W pn fb))
    (hsu : ∀ (a : Addr) (oe : Obj) (pn' : List (Addr × Obj)), PSs (X.suite a ((a, oe) :: pn')) (b₀ :: suite) (Ts (gv X ca) W0 pn fs)) :
    PS X (.Try body [.ExceptHandler (some (.Name x np)) none (b₀ :: suite) pos'] [] [] pos) (Ts (gv X ca) W pn (tryO cov fb fs)) := by
  refine PS.imp (ps_try_only (tb := fun W => Ts (gv X ca) W pn fb) (ts := fun a cls d => Ts (gv X ca) W0 pn fs) hs hf hc tk (fun W pn' xe tk _ => hb W pn' xe tk) (fun a oe cls d pn' hz hd => hsu a oe pn')) fun D σ H ⟨F, Gx, ρ, st, r⟩ => ⟨F, Gx, ρ, st, ?_⟩
  unfold Rs tryO at r
  unfold Rs
  cases hfb : fb ρ with
  | none => rw [hfb] at r; exact r
  | some q =>
    obtain ⟨z, ρ1⟩ := q
    cases z with
    | ok out => rw [hfb] at r; exact r
    | ex e =>
      simp only [hfb] at r
      intro H1 F1 σ1 d le p1 st1 hx
      cases hcv : cov e.cls with
      | none => simp only [hcv] at r
      | some b =>
        refine ⟨b, hcov _ _ hcv, fun hb1 a ha => ?_, fun hb1 => ?_⟩
        · subst hb1
          simp only [hcv] at r
          refine ⟨F1, Gx, _, st1, ?_⟩
          unfold Rs
          cases hfs : fs ρ1 with
          | none => simp only [hfs] at r
          | some q2 =>
            obtain ⟨z2, ρ2⟩ := q2
            cases z2 with
            | ex e2 => simp only [hfs] at r
            | ok out =>
              simp only [hfs] at r
              exact fun H2 F2 σ2 le2 p2 => r H2 F2 σ2 (le.trans le2) (p1.trans p2)
        · subst hb1
          simp only [hcv] at r
          exact r H1 F1 σ1 d le p1 st1 hx
end
end PF

set_option Elab.async false
set_option linter.all false
set_option maxRecDepth 100000
set_option maxHeartbeats 2000000
namespace PF
open PySem PySem.Spec PyProof.Rows L2
/-! ### within a suite: e.f, isinstance(e, T) -/
structure XcC (K : PySem.W.Frag) (C : Addr) : Prop where
  xf : XfC K C
  cl : (PySem.W.clsIn K C).isSome = true
  ha : PySem.W.findIn K (.ref C) "__class__" = some (some (.builtin "object.__class__"))
  hm : PySem.W.mroIn K C (.type "object") = some true
  hn : PySem.W.specialIn K (.builtin "object.__class__") "__get__" = some (some (.builtin "getset_descriptor.__get__"))
  ht : PySem.W.takesIn K (.builtin "object.__class__") = some true
def xcB (K : PySem.W.Frag) (C : Addr) : Bool := xfB K C && ((PySem.W.clsIn K C).isSome && (decide (PySem.W.findIn K (.ref C) "__class__" = some (some (.builtin "object.__class__"))) && (decide (PySem.W.mroIn K C (.type "object") = some true) &&
  (decide (PySem.W.specialIn K (.builtin "object.__class__") "__get__" = some (some (.builtin "getset_descriptor.__get__"))) && decide (PySem.W.takesIn K (.builtin "object.__class__") = some true)))))
theorem xcB_ok {K : PySem.W.Frag} {C : Addr} (h : xcB K C = true) : XcC K C := by
  unfold xcB at h
  simp only [Bool.and_eq_true, decide_eq_true_eq] at h
  obtain ⟨h1, h2, h3, h4, h5, h6⟩ := h
  exact ⟨xfB_ok h1, h2, h3, h4, h5, h6⟩
def fldX (f : Str) (fe : M O) : M O := fe.bind fun o => match o with
  | .val (.exn _ ns vs) => M.of (((ns.zip vs).lookup f).map O.val)
  | _ => M.stuck
/-- sub: which classes of exceptions are below the class asked -/
def isX (sub : Nat → Option Bool) (fe : M O) : M O := fe.bind fun o => match o with
  | .val (.exn c _ _) => M.of ((sub c).map fun b => .val (.bl b))
  | _ => M.stuck
theorem look_zip {g : Gv} {F : Hp} {f : Str} : ∀ {ns : List Str} {ds : List D} {us : List V} {d : D}, RepVs g F ds us → (ns.zip ds).lookup f = some d → ∃ v, (ns.zip us).lookup f = some v ∧ RepV g F d v
  | [], ds, us, d, r, h => by simp at h
  | n :: ns, [], us, d, r, h => by simp at h
  | n :: ns, e :: ds, us, d, r, h => by
    rw [RepVs] at r
    obtain ⟨v, w, rfl, r1, r2⟩ := r
    rw [List.zip_cons_cons, List.lookup_cons] at h
    rw [List.zip_cons_cons, List.lookup_cons]
    cases q : f == n with
    | true => rw [q] at h; cases h; exact ⟨v, rfl, r1⟩
    | false => rw [q] at h; exact look_zip r2 h
section
variable {W : WX} {X : Cx} {ca : Ca} {a : Addr} {oe : Obj} {d : Option Addr} {k : Nat} {pn : List (Addr × Obj)} {e : Expr} {pos : Pos} {f : Str} {fe : M O}
theorem e_fldX (C : XcC X.K (ca k)) (hno : PySem.W.findIn X.K (.ref (ca k)) f = some none) (hz : Zc (.ref (ca k)) d oe) (hf : ∃ vs, oe.data = .fields vs) (he : PE (X.suite a ((a, oe) :: pn)) e (T (gv X (ca.with a d k)) W fe)) (hb : attributeBase e f X.env (eval e X.env) = eval e X.env := by rfl) :
    PE (X.suite a ((a, oe) :: pn)) (.Attribute e f pos) (T (gv X (ca.with a d k)) W (fldX f fe)) :=
  PE.imp (pe_xf C.xf hno hz hf he hb) fun σ H Q ⟨F, Gx, ρ, st, r⟩ => ⟨F, Gx, ρ, st, r.bind.mono fun o H1 F1 ρ1 le r1 v st1 => by
    split at r1
    · rename_i c ns vs
      obtain ⟨o1, e1, q⟩ := r1.of
      obtain ⟨d1, e2, rfl⟩ := Option.map_eq_some_iff.mp e1
      have rv := st1.gd.val (B := slL σ ρ1)
      rw [RepV] at rv
      obtain ⟨x, ex, ev, ec, h⟩ := rv
      cases ex
      rcases h with ⟨h, _⟩ | ⟨dd, us, h1, h2, h3, h4⟩
      · rw [h] at e2; cases e2
      · obtain ⟨v1, l1, rv1⟩ := look_zip h4 e2
        exact ⟨ev, rfl, dd, _, v1, h1, st1.le _ _ h2, l1, q H1 F1 (Le.refl _) v1 (st1.drop1.ofVal rv1)⟩
    · exact (show False from r1).elim⟩
/-- the class asked -/
theorem e_isX {c : V} {cv : Value} {sub : Nat → Option Bool} {ec : Expr} {p pos : Pos} (C : XcC X.K (ca k)) (hsub : ∀ b, sub k = some b → PySem.W.kitOne X.K (.ref (ca k)) cv = some b) (hcv : ∀ u, RelV c u → u = cv) (hz : Zc (.ref (ca k)) d oe) (hf : ∃ vs, oe.data = .fields vs)
    (hm : X.mg "isinstance" = none) (he : PE (X.suite a ((a, oe) :: pn)) e (T (gv X (ca.with a d k)) W fe)) (hc : PE (X.suite a ((a, oe) :: pn)) ec (tC c)) (hg : Gl X "isinstance" := by rfl)
    (hs : starEach [e, ec] X.env = (false, eval e X.env) :: starEach [ec] X.env := by rfl) (hs2 : starEach [ec] X.env = (false, eval ec X.env) :: starEach [] X.env := by rfl) (hpl : (backTo pos (starEach [ec] X.env)).any (·.1) = false := by rfl) :
    PE (X.suite a ((a, oe) :: pn)) (.Call (.Name "isinstance" p) [e, ec] [] pos) (T (gv X (ca.with a d k)) W (isX sub fe)) := by
  have rule : CallR (X.suite a ((a, oe) :: pn)) (.builtin "isinstance") (fun xs H Q => ∃ F b, xs = [.ref a, c] ∧ sub k = some b ∧ Le F H ∧ (∀ dd, d = some dd → ∃ fs, F dd = some (.xd fs)) ∧ Q (.bl b) H) := by
    intro pins s σ H xs us Q I r ⟨F, b, e1, hb, le, hd, q⟩
    subst e1
    cases r with
    | cons rx rr =>
      cases rr with
      | cons rt rr =>
        cases rr
        cases rx
        have e2 := hcv _ rt
        subst e2
        obtain ⟨hget, _⟩ := I.pin (a, oe) (List.mem_append.mpr (.inl List.mem_cons_self))
        obtain ⟨vs, hv⟩ := hf
        obtain ⟨od, J⟩ : ∃ od, PySem.W.InstAt s.heap a oe (ca k) od := by
          obtain ⟨h1, h2⟩ := hz
          cases hdd : d with
          | none => exact ⟨none, hget, h1, by unfold PySem.W.notCls; rw [hv] <;> rfl, by rw [h2, hdd]; trivial⟩
          | some dd =>
            obtain ⟨fs, hF⟩ := hd dd hdd
            obtain ⟨mA, hns, _⟩ := (I.hok dd _ (le _ _ hF) : ObjOk X.prog X.w H s.heap dd (.xd fs))
            obtain ⟨od, ho, _⟩ := lookIn_ns hns
            exact ⟨some od, hget, h1, by unfold PySem.W.notCls; rw [hv] <;> rfl, by rw [h2, hdd]; exact ho⟩
        exact PySem.W.kia_one (PySem.W.kitx_exc C.cl C.xf.ga C.xf.gg C.xf.exC C.ha C.hn C.ht C.hm) I.kIn J (hsub b hb) (fun z => nomatch z) fun tk => ⟨.bl b, H, I.kept (t' := tk) fun _ _ z => z, rfl, q⟩
  have hst2 : starEach [e, ec] (X.suite a ((a, oe) :: pn)).env = (false, eval e (X.suite a ((a, oe) :: pn)).env) :: starEach [ec] (X.suite a ((a, oe) :: pn)).env := hs
  refine PE.imp (pe_callB (X := X.suite a ((a, oe) :: pn)) (id := "isinstance") rule hg hm boot_isinstance (pa_cons he (pa_cons hc pa_nil hs2) hs) (by decide) (by decide) hs hpl) fun σ H Q ⟨F, Gx, ρ, st, r⟩ => ⟨F, Gx, ρ, st, r.bind.mono fun o H1 F1 ρ1 le r1 v st1 => ?_⟩
  split at r1
  · rename_i c0 ns vs
    obtain ⟨o1, e1, q⟩ := r1.of
    obtain ⟨b, e2, rfl⟩ := Option.map_eq_some_iff.mp e1
    have rv := st1.gd.val (B := slL σ ρ1)
    rw [RepV] at rv
    obtain ⟨x, ex, ev, ec0, h⟩ := rv
    cases ex
    have ec0 : k = c0 := ec0
    subst ec0
    refine ⟨F1, b, by rw [ev], e2, st1.le, fun dd hdd => ?_, q H1 F1 (Le.refl _) (.bl b) (st1.drop1.ofVal repB)⟩
    subst hdd
    rcases h with ⟨_, h⟩ | ⟨dd', us, h1, h2, h3, h4⟩
    · cases h
    · cases h1; exact ⟨_, h2⟩
  · exact (show False from r1).elim
end
end PF

set_option Elab.async false
set_option linter.all false
set_option maxRecDepth 100000
set_option maxHeartbeats 2000000
namespace PF
open PySem PySem.Spec PyProof.Rows L2
/-! ### xs.index(y), xs.count(y) -/
def isLst : O → Bool
  | .lst _ => true
  | .val (.lst _) => true
  | _ => false
/-- a method of the list in slot i, one argument that is looked at -/
def lm1 (i : Nat) (G : O → O → Option O) (fe : M O) : M O := (pk i).bind fun o0 => if isLst o0 = true then fe.bind fun y => (pk i).bind fun o => M.of (G o y) else M.stuck
def rLm (g : Gv) (G : O → O → Option O) : V → List V → Hp → VK → Prop := fun x xs H Q => ∃ F Gx σ ρ a o y S1 S2 res, xs = [y] ∧ StG g H F Gx σ ρ [] ∧ RepO g H F a x S1 ∧ RepO g H F o y S2 ∧ G a o = some res ∧ Yd g H F Gx σ ρ res Q
theorem tyV_lst {g : Gv} {H F : Hp} {o : O} {v : V} {S : Addr → Prop} (le : Le F H) (h : isLst o = true) (r : RepO g H F o v S) : tyV g.K "list" v H := by
  cases o with
  | lst os =>
    rw [RepO] at r
    obtain ⟨a, vs, rfl, _, q, _⟩ := r
    exact .inl ⟨rfl, vs, SqL.of q⟩
  | val d =>
    cases d with
    | lst ds =>
      rw [RepO, RepV] at r
      obtain ⟨a, vs, rfl, q, _⟩ := r
      exact .inl ⟨rfl, vs, SqL.of (le _ _ q)⟩
    | _ => cases h
  | _ => cases h
section
variable {W : WX} {X : Cx} {ca : Ca} {a e : Expr} {apos pos : Pos} {fe : M O} {i : Nat}
theorem pk_run {g : Gv} {k : O → M O} {σ : L2.St} {H F Gx : Hp} {ρ : Sls} {R : O → Hp → Hp → Sls → Prop} (r : Rn g W ((pk i).bind k) σ H F Gx ρ R) : ∃ o, ρ[i]? = some (some o) ∧ Rn g W (k o) σ H F Gx ρ R := by
  obtain ⟨z, ρ', e⟩ := r.run
  unfold Rn M.bind pk at r
  cases q : ρ[i]? with
  | none => simp only [q] at r
  | some s =>
    cases s with
    | none => simp only [q] at r
    | some o =>
      simp only [q] at r
      exact ⟨o, rfl, r⟩
theorem e_lm1 {id : String} {name : Str} {G : O → O → Option O} (slot : Slot "list" name id) (ty : typeOf (.builtin id) = pure (.type "method_descriptor")) (rule : MtR X id (rLm (gv X ca) G)) (ha : PE X a (tVar i)) (hb : PE X e (TR (gv X ca) W fe))
    (hs : starEach [e] X.env = (false, eval e X.env) :: starEach [] X.env := by rfl) (hbase : attributeBase a name X.env (eval a X.env) = eval a X.env := by rfl) (hline : (apos.endLine == pos.line) = true := by rfl)
    (hfew : ((backTo pos (starEach [e] X.env)).all (fun x => !x.1) && (backToKw pos (keywordEach [] X.env)).all (fun x => x.1.isSome)
      && decide ([e].length + ([] : List Keyword).length + (if ([] : List Keyword).isEmpty then 0 else 1) < 30)) = true := by rfl) (hplain : (backTo pos (starEach [] X.env)).any (·.1) = false := by rfl) :
    PE X (.Call (.Attribute a name apos) [e] [] pos) (T (gv X ca) W (lm1 i G fe)) :=
  PE.imp (pe_bm PySem.F.plainAttrs_list slot ty rule ha (pa_cons hb pa_nil hs) hbase hfew hline hs hplain) fun σ H Q ⟨F, Gx, ρ, st, r⟩ => by
    obtain ⟨o0, h0, r0⟩ := pk_run r
    obtain ⟨v, S, hv, rv⟩ := st.peek h0
    split at r0
    · rename_i hl
      refine ⟨v, hv, tyV_lst st.le hl rv, F, Gx, ρ, st, r0.bind.mono fun y H1 F1 ρ1 le r1 w S1 st1 ry => ?_⟩
      obtain ⟨o, h1, r2⟩ := pk_run r1
      obtain ⟨v1, S2, hv1, rv1⟩ := st1.peek h1
      rw [hv] at hv1
      cases hv1
      obtain ⟨res, e, q⟩ := r2.of
      exact ⟨F1, Gx, σ, ρ1, o, y, w, S2, S1, res, rfl, st1, rv1, ry, e, fun v H3 F3 le3 st3 => q H3 F3 le3 v st3⟩
    · exact (show False from r0).elim
end
def idxL (a y : O) : Option O := match fz a with
  | .lst ds => if okD 16 (.lst ds) && okD 16 (fz y) then (ds.findIdx? fun z => z.eqv (fz y)).map fun j => .val (.int (j : Nat)) else none
  | _ => none
def cntL (a y : O) : Option O := match fz a with
  | .lst ds => if okD 16 (.lst ds) && okD 16 (fz y) && PyData.plainAll (toPys ds) && PyData.plain (toPy (fz y)) then some (.val (.int (ds.countP fun z => z.eqv (fz y) : Nat))) else none
  | _ => none
section
variable {X : Cx} {ca : Ca}
theorem mr_idxL (hu : X.A.units + 65 < cLine) : MtR X "list.index" (rLm (gv X ca) idxL) := by
  intro pins s σ H x xs v us Q I rx rs ⟨F, Gx, σ', ρ, a, o, y, S1, S2, res, e1, st, ra, ro, e, yd⟩
  unfold idxL at e
  split at e
  · rename_i ds hd
    split at e
    · rename_i hk
      rw [Bool.and_eq_true] at hk
      obtain ⟨j, hj, rfl⟩ := Option.map_eq_some_iff.mp e
      obtain ⟨hl, h1, h2⟩ := List.findIdx?_eq_some_iff_getElem.mp hj
      have hk1 : okD 16 (fz a) = true := by rw [hd]; exact hk.1
      have da := dpO_of 16 a x S1 st.le hk1 ra
      have dy := dpO_of 16 o y S2 st.le hk.2 ro
      rw [hd, toPy] at da
      obtain ⟨m, hm, hds⟩ := okD_lst.mp hk.1
      obtain ⟨p, rfl⟩ : ∃ p, x = .ref p := by cases da with | lst _ _ => exact ⟨_, rfl⟩
      have sh : SeqAt.shaped (.list (toPys ds)) = true := by
        have := okD_shaped hk.1 (by decide)
        rw [toPy] at this; exact this
      refine mt_indexD hu pins s σ H _ _ v us Q I rx rs ⟨p, y, toPy (fz o), toPys ds, j, toPy ds[j], rfl, e1, da, dy, sh, okD_shaped hk.2 (by decide), ?_, ?_, ?_, yd.val st repI⟩
      · rw [toPys_map, List.getElem?_map, List.getElem?_eq_getElem hl]; rfl
      · rw [eqv_py m 16 _ _ (hds _ (List.getElem_mem hl)) hk.2]; exact h1
      · intro i z hi hz
        rw [toPys_map, List.getElem?_map, List.getElem?_eq_getElem (by omega)] at hz
        cases hz
        rw [eqv_py m 16 _ _ (hds _ (List.getElem_mem _)) hk.2]
        simpa using h2 i hi
    · cases e
  · cases e
theorem mr_cntL (hu : X.A.units + 65 < cLine) : MtR X "list.count" (rLm (gv X ca) cntL) := by
  intro pins s σ H x xs v us Q I rx rs ⟨F, Gx, σ', ρ, a, o, y, S1, S2, res, e1, st, ra, ro, e, yd⟩
  unfold cntL at e
  split at e
  · rename_i ds hd
    split at e
    · rename_i hk
      simp only [Bool.and_eq_true] at hk
      obtain ⟨⟨⟨hk1, hk2⟩, hk3⟩, hk4⟩ := hk
      cases e
      have hk1' : okD 16 (fz a) = true := by rw [hd]; exact hk1
      have da := dpO_of 16 a x S1 st.le hk1' ra
      have dy := dpO_of 16 o y S2 st.le hk2 ro
      rw [hd, toPy] at da
      obtain ⟨m, hm, hds⟩ := okD_lst.mp hk1
      subst e1
      obtain ⟨u, rfl, ru⟩ := rs.one
      obtain ⟨bs, r2⟩ := Dp.reads I _ y u dy ru
      have sh : SeqAt.shaped (.list (toPys ds)) = true := by
        have := okD_shaped hk1 (by decide)
        rw [toPy] at this; exact this
      have hroom : X.A.units + 1 + min (PyData.depthAll (toPys ds)) (toPy (fz o)).depth < cLine := room_in_shaped (okD_shaped hk2 (by decide)) hu
      cases da with
      | lst hs ha =>
        cases rx
        obtain ⟨its, rv, pl, hz⟩ := I.list hs
        obtain ⟨as, r1⟩ := Dp.readsAll I _ _ its ha rv
        refine SeqAt.count_list_data (vs := its.toArray) pl.isList r1 r2 hk3 hk4 hroom ?_
        refine ⟨.int _, H, I.tok _, ⟨s.toks, rfl⟩, ?_⟩
        have ec : (toPys ds).countP (fun z => PyData.eqv z (toPy (fz o))) = ds.countP (fun z => z.eqv (fz o)) := by
          rw [toPys_map, List.countP_map]
          refine List.countP_congr fun z hz => ?_
          show PyData.eqv (toPy z) (toPy (fz o)) = true ↔ _
          rw [eqv_py m 16 _ _ (hds z hz) hk2]
        rw [ec]
        exact yd.val st repI
    · cases e
  · cases e
end
section
variable {W : WX} {X : Cx} {ca : Ca} {a e : Expr} {apos pos : Pos} {fe : M O} {i : Nat}
theorem e_idxL (hu : X.A.units + 65 < cLine) (ha : PE X a (tVar i)) (hb : PE X e (TR (gv X ca) W fe)) (hs : starEach [e] X.env = (false, eval e X.env) :: starEach [] X.env := by rfl) (hbase : attributeBase a "index" X.env (eval a X.env) = eval a X.env := by rfl) (hline : (apos.endLine == pos.line) = true := by rfl)
    (hfew : ((backTo pos (starEach [e] X.env)).all (fun x => !x.1) && (backToKw pos (keywordEach [] X.env)).all (fun x => x.1.isSome)
      && decide ([e].length + ([] : List Keyword).length + (if ([] : List Keyword).isEmpty then 0 else 1) < 30)) = true := by rfl) (hplain : (backTo pos (starEach [] X.env)).any (·.1) = false := by rfl) :
    PE X (.Call (.Attribute a "index" apos) [e] [] pos) (T (gv X ca) W (lm1 i idxL fe)) := e_lm1 PySem.F.slot_list_index PySem.F.type_list_index (mr_idxL hu) ha hb hs hbase hline hfew hplain
theorem e_cntL (hu : X.A.units + 65 < cLine) (ha : PE X a (tVar i)) (hb : PE X e (TR (gv X ca) W fe)) (hs : starEach [e] X.env = (false, eval e X.env) :: starEach [] X.env := by rfl) (hbase : attributeBase a "count" X.env (eval a X.env) = eval a X.env := by rfl) (hline : (apos.endLine == pos.line) = true := by rfl)
    (hfew : ((backTo pos (starEach [e] X.env)).all (fun x => !x.1) && (backToKw pos (keywordEach [] X.env)).all (fun x => x.1.isSome)
      && decide ([e].length + ([] : List Keyword).length + (if ([] : List Keyword).isEmpty then 0 else 1) < 30)) = true := by rfl) (hplain : (backTo pos (starEach [] X.env)).any (·.1) = false := by rfl) :
    PE X (.Call (.Attribute a "count" apos) [e] [] pos) (T (gv X ca) W (lm1 i cntL fe)) := e_lm1 PySem.F.slot_list_count PySem.F.type_list_count (mr_cntL hu) ha hb hs hbase hline hfew hplain
end
end PF

set_option Elab.async false
set_option linter.all false
set_option maxRecDepth 100000
set_option maxHeartbeats 2000000
namespace PF
open PySem PySem.Spec PyProof.Rows L2
/-! ### what is raised, from behind -/
def Ex {α : Type} (f : M α) (ρ : Sls) (R : Exn → Sls → Prop) : Prop := ∃ e ρ', f ρ = some (.ex e, ρ') ∧ R e ρ'
section
variable {α β : Type} {f : M α} {ρ : Sls} {R R' : Exn → Sls → Prop}
theorem Ex.mono (h : Ex f ρ R) (i : ∀ e ρ', R e ρ' → R' e ρ') : Ex f ρ R' := let ⟨a, ρ', e, r⟩ := h; ⟨a, ρ', e, i a ρ' r⟩
/-- f raises -/
theorem ex_at {k : α → M β} (h : Ex f ρ R) : Ex (f.bind k) ρ R := by
  obtain ⟨e, ρ', q, r⟩ := h
  exact ⟨e, ρ', by unfold M.bind; rw [q], r⟩
/-- what comes behind f raises -/
theorem ex_on {k : α → M β} (h : Ev f ρ fun a ρ1 => Ex (k a) ρ1 R) : Ex (f.bind k) ρ R := by
  obtain ⟨a, ρ1, q, e, ρ', q2, r⟩ := h
  exact ⟨e, ρ', by unfold M.bind; rw [q]; exact q2, r⟩
theorem ex_raise {e : Exn} (h : R e ρ) : Ex (M.raise e : M α) ρ R := ⟨e, ρ, rfl, h⟩
end
section
variable {ρ : Sls} {R : Exn → Sls → Prop}
theorem ex_defM {n : Nat} {f : M Out} (h : Ex f (ρ ++ List.replicate (n - ρ.length) none) R) : Ex (defM n f) ρ R := by
  obtain ⟨e, ρ', q, r⟩ := h
  exact ⟨e, ρ', by unfold defM; rw [q], r⟩
theorem ex_seqA {f k : M Out} (h : Ex f ρ R) : Ex (seqS f k) ρ R := ex_at h
theorem ex_seqO {f k : M Out} (h : Ev f ρ fun out ρ1 => out = .nx ∧ Ex k ρ1 R) : Ex (seqS f k) ρ R :=
  ex_on (h.mono fun out ρ1 ⟨e, q⟩ => by subst e; exact q)
theorem ex_ite {α : Type} {fc : M Bool} {a b : M α} (h : Ev fc ρ fun c ρ1 => if c = true then Ex a ρ1 R else Ex b ρ1 R) : Ex (iteM fc a b) ρ R := by
  unfold iteM
  exact ex_on (h.mono fun c ρ1 q => by cases c <;> simpa using q)
theorem ex_exprS {f : M O} (h : Ex f ρ R) : Ex (exprS f) ρ R := ex_at h
theorem ex_retS {f : M O} (h : Ex f ρ R) : Ex (retS f) ρ R := ex_at h
theorem ex_setS {i : Nat} {f : M O} (h : Ex f ρ R) : Ex (setS i f) ρ R := ex_at h
theorem ex_raiseF {C : Nat} {ns : List Str} {fs : M (List O)} (h : Ev fs ρ fun os ρ1 => (os.length = ns.length ∧ ns.length ≤ 900) ∧ R ⟨C, ns.reverse, (fzs os).reverse⟩ ρ1) : Ex (raiseF C ns fs) ρ R :=
  ex_on (h.mono fun os ρ1 ⟨k, q⟩ => by rw [if_pos k]; exact ex_raise q)
theorem ex_call {ks : List (Option Nat)} {fs : M (List O)} {ms : List Bool} {sem : M O} (h : Ev fs ρ fun os ρ1 => ∃ c ρr, bld ks os ρ1 = some (c, ρr) ∧ Ex sem c fun e c' => R e (unbld ks (mask ms c') ρr)) : Ex (callF ks fs ms sem) ρ R := by
  unfold callF
  refine ex_on (f := fs) (h.mono fun os ρ1 ⟨c, ρr, hb, e, c', hs, r⟩ => ?_)
  exact ⟨e, _, by simp only [hb, hs], r⟩
/-- a loop that raises -/
theorem forL_ex {h : O → M Unit} {fb : M Out} (Iv : List D → Sls → Prop) (hs : ∀ d ds ρ, Iv (d :: ds) ρ → Ev (h (.val d)) ρ fun _ ρ1 => Ex fb ρ1 R ∨ Ev fb ρ1 fun out ρ2 => (out = .nx ∨ out = .ct) ∧ Iv ds ρ2) (he : ∀ ρ, Iv [] ρ → False) : ∀ (ds : List D) (ρ : Sls), Iv ds ρ → Ex (forL h fb ds) ρ R
  | [], ρ, i => (he ρ i).elim
  | d :: ds, ρ, i => by
    rw [forL]
    refine ex_on ((hs d ds ρ i).mono fun _ ρ1 q => ?_)
    rcases q with q | q
    · exact ex_at q
    · refine ex_on (q.mono fun out ρ2 ⟨q1, q2⟩ => ?_)
      rcases q1 with rfl | rfl
      · exact forL_ex Iv hs he ds ρ2 q2
      · exact forL_ex Iv hs he ds ρ2 q2
/-- try: nothing is raised -/
theorem ev_tryT {i : Nat} {cov : Nat → Option Bool} {fb fs : M Out} {Q : Out → Sls → Prop} (h : Ev fb ρ Q) : Ev (tryX i cov fb fs) ρ Q := by
  obtain ⟨a, ρ', e, r⟩ := h
  exact ⟨a, ρ', by unfold tryX; rw [e], r⟩
/-- .. what is raised is taken -/
theorem ev_tryC {i : Nat} {cov : Nat → Option Bool} {fb fs : M Out} {Q : Out → Sls → Prop} (h : Ex fb ρ fun e ρ1 => cov e.cls = some true ∧ i < ρ1.length ∧ Ev fs (ρ1.set i (some (.val (.exn e.cls e.ns e.vs)))) fun out ρ2 => (xfOut out = true ∧ xfR (ρ2.set i none) = true) ∧ Q out (ρ2.set i none)) :
    Ev (tryX i cov fb fs) ρ Q := by
  obtain ⟨e, ρ1, q, hc, hi, out, ρ2, q2, hx, r⟩ := h
  exact ⟨out, _, by unfold tryX; simp only [q, hc, if_pos hi, q2, if_pos hx], r⟩
theorem ev_tryOT {cov : Nat → Option Bool} {fb fs : M Out} {Q : Out → Sls → Prop} (h : Ev fb ρ Q) : Ev (tryO cov fb fs) ρ Q := by
  obtain ⟨a, ρ', e, r⟩ := h
  exact ⟨a, ρ', by unfold tryO; rw [e], r⟩
theorem ev_tryOC {cov : Nat → Option Bool} {fb fs : M Out} {Q : Out → Sls → Prop} (h : Ex fb ρ fun e ρ1 => cov e.cls = some true ∧ Ev fs ρ1 Q) : Ev (tryO cov fb fs) ρ Q := by
  obtain ⟨e, ρ1, q, hc, out, ρ2, q2, r⟩ := h
  exact ⟨out, ρ2, by unfold tryO; simp only [q, hc, q2], r⟩
end
end PF

set_option Elab.async false
set_option linter.all false
set_option maxRecDepth 100000
set_option maxHeartbeats 2000000
namespace PF
open PySem PySem.Spec PyProof.Rows L2
/-! ### zip of two tuples, walked -/
def zipD (ds es : List D) : List D := (ds.zip es).map fun p => .tup [p.1, p.2]
def zipI (fs : M (List O)) : M (List D) := fs.bind fun os => match os with
  | [.val (.tup ds), .val (.tup es)] => M.pure (zipD ds es)
  | _ => M.stuck
theorem zipD_at {ds es : List D} {i : Nat} {d : D} (h : (zipD ds es)[i]? = some d) : ∃ x y, ds[i]? = some x ∧ es[i]? = some y ∧ d = .tup [x, y] := by
  unfold zipD at h
  rw [List.getElem?_map] at h
  obtain ⟨p, hp, rfl⟩ := Option.map_eq_some_iff.mp h
  obtain ⟨x, y⟩ := p
  rw [List.getElem?_zip_eq_some] at hp
  exact ⟨x, y, hp.1, hp.2, rfl⟩
theorem RepVs.len {g : Gv} {F : Hp} : ∀ {ds : List D} {vs : List V}, RepVs g F ds vs → vs.length = ds.length := fun r => r.length
theorem itg_zipT {g : Gv} {F0 : Hp} {ds es : List D} {vs us : List V} {a b : Addr} (ha : SqT g.K F0 a vs) (ra : RepVs g F0 ds vs) (hb : SqT g.K F0 b us) (rb : RepVs g F0 es us) : ItG g (RZ.ItzT g.K a b) (Fz F0) (zipD ds es) where
  go := fun i H F hi z => by
    have hl : (zipD ds es).length = min ds.length es.length := by unfold zipD; rw [List.length_map, List.length_zip]
    rw [hl] at hi
    have h1 := ra.len
    have h2 := rb.len
    exact ⟨vs, us, vs[i]'(by omega), us[i]'(by omega), SqT.mono z.2 (SqT.mono z.1 ha), SqT.mono z.2 (SqT.mono z.1 hb), by simp, by simp⟩
  stop := fun H F z => by
    have hl : (zipD ds es).length = min ds.length es.length := by unfold zipD; rw [List.length_map, List.length_zip]
    have h1 := ra.len
    have h2 := rb.len
    exact ⟨vs, us, SqT.mono z.2 (SqT.mono z.1 ha), SqT.mono z.2 (SqT.mono z.1 hb), by omega⟩
  yld := fun i d H F Gx σ ρ L v H' hd z st y => by
    obtain ⟨T, x, y, rfl, hT, rfl, hx, hy⟩ := y
    obtain ⟨dx, dy, h1, h2, rfl⟩ := zipD_at hd
    obtain ⟨u, k1, k2⟩ := ra.get h1
    obtain ⟨w, k3, k4⟩ := rb.get h2
    have e1 := hx vs (SqT.mono z.2 (SqT.mono z.1 ha))
    have e2 := hy us (SqT.mono z.2 (SqT.mono z.1 hb))
    rw [k1] at e1; cases e1
    rw [k3] at e2; cases e2
    exact newPair st hT (RepV.mono g z.1 _ _ k2) (RepV.mono g z.1 _ _ k4)
section
variable {W : WX} {X : Cx} {ca : Ca} {e e2 : Expr} {p pos tpos : Pos} {elts : List Expr} {kk : Nat} {fs : M (List O)}
theorem i_zip (hg : Gl X "zip") (hm : X.mg "zip" = none) (ha : PA X [e, e2] (TL (gv X ca) W fs)) (hs : starEach [e, e2] X.env = (false, eval e X.env) :: starEach [e2] X.env := by rfl) (hpl : (backTo pos (starEach [e2] X.env)).any (·.1) = false := by rfl) :
    PI X (.Tuple elts kk tpos) (.Call (.Name "zip" p) [e, e2] [] pos) (Ti (gv X ca) W (zipI fs)) :=
  PI.imp (RZ.pi_zipA hg hm ha hs hpl) fun σ H R ⟨F, Gx, ρ, st, r⟩ => ⟨F, Gx, ρ, st, r.bind.mono fun os H1 F1 ρ1 le r1 vs hl st1 => by
    split at r1
    · rename_i ds es
      match vs, hl with
      | [v, u], _ =>
        have r1v := st1.gd.val (B := (u, O.val (.tup es)) :: ([] ++ slL σ ρ1))
        have r2v := st1.drop1.gd.val (B := [] ++ slL σ ρ1)
        rw [RepV] at r1v r2v
        obtain ⟨a, xs, rfl, ha, ra⟩ := r1v
        obtain ⟨b, ys, rfl, hb, rb⟩ := r2v
        have st2 := st1.drop1.drop1
        exact ⟨a, b, xs, ys, rfl, .inr ⟨SqT.mono st2.le ha, SqT.mono st2.le hb, r1.pure H1 F1 (Le.refl _) _ F1 (Le.refl _) st2 (itg_zipT ha ra hb rb)⟩⟩
    · exact (show False from r1).elim⟩
end
/-! ### xs[::-1] -/
def revF (fe : M O) : M O := fe.bind fun o => M.of (o.dsL.map fun ds => .lst (ds.reverse.map .val))
section
variable {W : WX} {X : Cx} {ca : Ca} {e : Expr} {fe : M O} {k : Nat} {p1 p2 p3 pos : Pos}
theorem e_revL (he : PE X e (TR (gv X ca) W fe)) : PE X (.Subscript e (.Slice none none (some (.UnaryOp .USub (.Constant (.int 1) k p1) p2)) p3) pos) (T (gv X ca) W (revF fe)) :=
  PE.imp (pe_revL he) fun σ H Q ⟨F, Gx, ρ, st, r⟩ => ⟨F, Gx, ρ, st, r.bind.mono fun o H1 F1 ρ1 le r1 v S st1 rv => by
    obtain ⟨o1, e1, q⟩ := r1.of
    obtain ⟨ds, e2, rfl⟩ := Option.map_eq_some_iff.mp e1
    obtain ⟨a, vs, rfl, ha, rr⟩ := dsL_ok st1.le rv e2
    refine ⟨a, vs, rfl, SqL.of ha, ?_⟩
    exact Yd.lst (F := F1) (fun v H' F' le3 st3 => q H' F' le3 v st3) st1 rr.rev⟩
end
end PF

set_option Elab.async false
set_option linter.all false
set_option maxRecDepth 100000
set_option maxHeartbeats 2000000
namespace PF
open PySem PySem.Spec PyProof.Rows L2
/-! ### what a run of the top shows of exceptions -/
def oexL (K : PySem.W.Frag) (C : Addr) : Bool := match K.lookup C with
  | some ⟨.type "type", _, .cls cd, sl⟩ => (match cd.mro, sl.toList with
    | .ref D :: bm, [_, _, _, _, some (.builtin nw), _] => (D == C) && ((nw == "ValueError.__new__") && (!cd.hasDel && (cd.hasDict && PySem.HandSPX.refsVE bm)))
    | _, _ => false)
  | _ => false
def oexB (K : PySem.W.Frag) (C : Addr) : Bool := oexL K C && (decide (PySem.W.findIn K (.ref C) "__setattr__" = some (some (.builtin "object.__setattr__"))) && (decide (PySem.W.subIn K (.ref C) (.type "BaseException") = some true) &&
  (decide (PySem.W.typeIn K (.ref C) = some (.type "type")) && PySem.W.keepIn K (.ref C))))
theorem oexL_ok {K : PySem.W.Frag} {C : Addr} (h : oexL K C = true) : ∃ nm q N bs bm sn sub ab col dd k0 k1 k2 k3 k5, K.lookup C = some (excClassObj nm q C N bs bm true sn sub ab col dd k0 k1 k2 k3 k5 "ValueError.__new__") ∧ PySem.HandSPX.refsVE bm = true := by
  unfold oexL at h
  split at h
  · rename_i dd cd sl hk
    split at h
    · rename_i D bm k0 k1 k2 k3 nw k5 hmro hslots
      rw [Bool.and_eq_true, Bool.and_eq_true, Bool.and_eq_true, Bool.and_eq_true, beq_iff_eq, beq_iff_eq, Bool.not_eq_true'] at h
      obtain ⟨e1, e2, e3, e4, e5⟩ := h
      subst e1 e2
      obtain ⟨nm, bs, mro, N, qn, hd, sn, sub, ab, col, del⟩ := cd
      dsimp only at hmro e3 e4
      subst hmro e3 e4
      obtain ⟨sl⟩ := sl
      have hslots : sl = _ := hslots
      subst hslots
      exact ⟨nm, qn, N, bs, bm, sn, sub, ab, col, dd, k0, k1, k2, k3, k5, hk, e5⟩
    · cases h
  · cases h
theorem oexB_ok {K : PySem.W.Frag} {C : Addr} (h : oexB K C = true) : OexC K C := by
  unfold oexB at h
  simp only [Bool.and_eq_true, decide_eq_true_eq] at h
  obtain ⟨h1, h2, h3, h4, h5⟩ := h
  exact ⟨oexL_ok h1, h2, h3, h4, h5⟩
def xinB (K : PySem.W.Frag) (C fI : Addr) (fs : List Str) : Bool := oexB K C && (decide (PySem.W.findIn K (.ref C) "__init__" = some (some (.ref fI))) && (decide (PySem.W.typeIn K (.ref fI) = some (.type "function")) && fs.all fun f => decide (PySem.W.findIn K (.ref C) f = some none)))
section
variable {P : Program} {w : World} {K : PySem.W.Frag} {mg : Str → Option Value} {base : Heap} {ca : Ca} {C : Nat} {x : Str} {ns ps : List Str} {fI : Addr} {fd : FuncData}
theorem ownX_of (h : xinB K (ca C) fI ns = true) (hm : mg x = some (.ref (ca C))) (hb : Binds K fd ps []) (F : FnOk P w K mg base (L2.CX P w) 1 fI fd ps (spX K ns)) (h0 : 0 < ns.length) : OwnX P w K mg base ca C x ns := by
  unfold xinB at h
  simp only [Bool.and_eq_true, decide_eq_true_eq, List.all_eq_true] at h
  obtain ⟨h1, h2, h3, h4⟩ := h
  exact ⟨fI, fd, ps, hm, oexB_ok h1, h2, h3, hb, F, h4, h0⟩
end
/-- which classes a clause takes, of those told -/
def covT (tb : List (Nat × Bool)) : Nat → Option Bool := fun k => tb.lookup k
def covB (K : PySem.W.Frag) (at_ : Nat → Addr) (c : Value) (tb : List (Nat × Bool)) : Bool := tb.all fun p => decide (PySem.W.exmOne K (.ref (at_ p.1)) c = some p.2)
def subB (K : PySem.W.Frag) (at_ : Nat → Addr) (c : Value) (tb : List (Nat × Bool)) : Bool := tb.all fun p => decide (PySem.W.kitOne K (.ref (at_ p.1)) c = some p.2)
theorem look_mem {tb : List (Nat × Bool)} {k : Nat} {b : Bool} (h : tb.lookup k = some b) : (k, b) ∈ tb := by
  induction tb with
  | nil => cases h
  | cons p tb ih =>
    obtain ⟨j, c⟩ := p
    rw [List.lookup_cons] at h
    cases q : k == j with
    | true => rw [q] at h; cases h; rw [beq_iff_eq.mp q]; exact List.mem_cons_self
    | false => rw [q] at h; exact List.mem_cons_of_mem _ (ih h)
theorem covB_ok {K : PySem.W.Frag} {at_ : Nat → Addr} {c : Value} {tb : List (Nat × Bool)} (h : covB K at_ c tb = true) : ∀ k b, covT tb k = some b → PySem.W.exmOne K (.ref (at_ k)) c = some b := fun k b e => by
  unfold covB at h
  rw [List.all_eq_true] at h
  exact of_decide_eq_true (h _ (look_mem e))
theorem subB_ok {K : PySem.W.Frag} {at_ : Nat → Addr} {c : Value} {tb : List (Nat × Bool)} (h : subB K at_ c tb = true) : ∀ k b, covT tb k = some b → PySem.W.kitOne K (.ref (at_ k)) c = some b := fun k b e => by
  unfold subB at h
  rw [List.all_eq_true] at h
  exact of_decide_eq_true (h _ (look_mem e))
def xcF (K : PySem.W.Frag) (C : Addr) (fs : List Str) : Bool := xcB K C && fs.all fun f => decide (PySem.W.findIn K (.ref C) f = some none)
theorem xcF_ok {K : PySem.W.Frag} {C : Addr} {fs : List Str} (h : xcF K C fs = true) : XcC K C ∧ ∀ f ∈ fs, PySem.W.findIn K (.ref C) f = some none := by
  unfold xcF at h
  rw [Bool.and_eq_true, List.all_eq_true] at h
  exact ⟨xcB_ok h.1, fun f hf => of_decide_eq_true (h.2 f hf)⟩
end PF

set_option Elab.async false
set_option linter.all false
set_option maxRecDepth 100000
set_option maxHeartbeats 2000000
namespace PF
open PySem PySem.Spec PyProof.Rows L2
/-! ### what the names reach, and the table of statics -/
def asY (g : Addr → Option Obj) (n : Nat) : List Addr := He.asD g n ++ [cStatics]
def frY (g : Addr → Option Obj) (n : Nat) : PySem.W.Frag := He.frT g (asY g n)
section
variable {n : Nat} {fa : List He.Fa} {fn : List He.DefD} {ts : List He.Tab} {tf : List He.Defn} {ex : PySem.W.Frag → Bool}
def obsY (n : Nat) (fa : List He.Fa) (fn : List He.DefD) (ts : List He.Tab) (tf : List He.Defn) (ex : PySem.W.Frag → Bool) (g : Addr → Option Obj) : He.AlX := (He.obsT fa fn ts (frY g n), ex (frY g n) && He.tabsB g tf (frY g n))
theorem saysY {w : World} {h : Heap} (e : obsY n fa fn ts tf ex h.get? = He.valX fn ts w) : He.SaysX fa fn ts tf ex w h (frY h.get? n) := by
  obtain ⟨q1, q2⟩ := Prod.mk.inj e
  rw [Bool.and_eq_true] at q2
  have q3 := List.all_eq_true.mp q2.2
  have tab : ∀ p ∈ tf, PySem.W.codeHdIn (frY h.get? n) (He.cT (frY h.get? n) p).1 (He.cT (frY h.get? n) p).2 = true ∧ ∃ o, h.get? (He.cT (frY h.get? n) p).2 = some o ∧ He.emptyTab o = true := fun p hp => by
    have q4 := q3 p hp
    rw [Bool.and_eq_true] at q4
    refine ⟨q4.1, ?_⟩
    have q5 := q4.2
    split at q5
    · rename_i o ho
      exact ⟨o, ho, q5⟩
    · cases q5
  refine ⟨q1, q2.1, fun p hp => (tab p hp).1, fun p hp => ?_, fun p hp => ?_⟩
  · obtain ⟨_, o, ho, z⟩ := tab p hp
    exact He.frT_none ho z
  · obtain ⟨_, o, ho, z⟩ := tab p hp
    rw [ho, He.emptyTab_eq z]
def hookY (n : Nat) (fa : List He.Fa) (fn : List He.DefD) (ts : List He.Tab) (tf : List He.Defn) (ex : PySem.W.Frag → Bool) : PySem.W.Hook where
  α := He.AlX
  obs := fun s => obsY n fa fn ts tf ex s.heap.get?
  val := He.valX fn ts
  says := fun w h => ∃ K : PySem.W.Frag, K.In h ∧ He.SaysX fa fn ts tf ex w h K
  of := fun w s e => ⟨frY s.heap.get? n, He.frT_in, saysY e⟩
  keeps := fun w h h' ⟨K, inK, c⟩ kp => ⟨K, PySem.W.Frag.In.keeps inK kp, { c with empty := fun p hp => kp _ _ (c.empty p hp) }⟩
theorem obsY_eq {g : Addr → Option Obj} {s : Shared} (h : ∀ a, g a = s.heap.get? a) : obsY n fa fn ts tf ex g = (hookY n fa fn ts tf ex).obs s := by
  obtain rfl : g = s.heap.get? := funext h
  rfl
end
end PF

set_option Elab.async false
set_option linter.all false
set_option maxRecDepth 100000
set_option maxHeartbeats 2000000
namespace PF
open PySem PySem.Spec PyProof.Rows L2
/-! ### x = {k: v for ..} -/
section
variable {X : Cx} {ca : Ca}
set_option maxHeartbeats 8000000 in
theorem dn_core {kx vx tg iter : Expr} {ifs : List Expr} {scope : Scope} {own : List (Str × Nat)} {pos : Pos} {wi : L2.TI} {gt : TG} {tt : TT} {tk tv : TE} {pins : List (Addr × Obj)} {s : Shared} {σ : L2.St} {H : Hp} {Q : VK} {use : Option (Value → Sem Unit)} {Qf : Value → Shared → Prop} (I : Inv X pins σ H s) (hu : X.A.units + 65 < cLine) (hc : X.calm = true) (hN : X.N.Nodup) (hi : PI X tg iter wi) (ok : BlkOk X.N X.env.scope scope own)
    (hg : ∀ (s : Shared) (H : Hp) (C : Addr) (cl : List (Str × Addr)) (fp : List Addr), PG (X.blk s H scope (compEnvC scope cl C X.env) fp) tg gt)
    (ht : ∀ (s : Shared) (H : Hp) (C : Addr) (cl : List (Str × Addr)) (fp : List Addr), PTs (X.blk s H scope (compEnvC scope cl C X.env) fp) ifs tt)
    (hk : ∀ (s : Shared) (H : Hp) (C : Addr) (cl : List (Str × Addr)) (fp : List Addr), PE (X.blk s H scope (compEnvC scope cl C X.env) fp) kx tk)
    (he : ∀ (s : Shared) (H : Hp) (C : Addr) (cl : List (Str × Addr)) (fp : List Addr), PE (X.blk s H scope (compEnvC scope cl C X.env) fp) vx tv)
    (hs : ∀ x, foldedSetIterable iter X.env x = pure x) (h : tDn (gv X ca) wi gt tt tk tv (own.map (·.2)) σ H Q)
    (hRR : ∀ D C s' m H', Inv X pins σ H' s' → Q (.ref D) H' → s'.heap.Ns C m → FpOk X pins H' C → compPost (model X.prog X.w) X.A X.xe use Qf (.ref D) C (.ok .next) s') :
    wpAny (model X.prog X.w) X.A (comprehension (.DictComp kx vx [⟨tg, iter, ifs, 0⟩] scope pos) scope X.env (firstIterPos [⟨tg, iter, ifs, 0⟩] pos) newDict (firstAsync [⟨tg, iter, ifs, 0⟩]) (firstIter [⟨tg, iter, ifs, 0⟩] X.env) use) Qf X.xe s := by
  have hfree : ∀ y ∈ scope.names, y.2 = .free → ∃ c, X.env.cells.lookup y.1 = some c := fun y hy e => by
    rcases ok.free y hy e with k | k
    · exact I.ok.has _ (.inl k)
    · exact I.ok.has _ (.inr k)
  refine wpAny_comprehension_free (use := use) rfl hs (closure_ok hfree) ok.kind (fun y hy e => by rw [ok.uniq y hy, e]) (thn (hi.run pins s σ H _ I h) fun xv sA hx => thn hx fun itv sB hB => ?_)
  obtain ⟨it, fp, tn, J, HB, e, IB, TT', stB, fB, q⟩ := hB
  subst e
  refine wpAny_newObj_type (newEnv_comp ?_)
  generalize hD : sB.heap.objs.size = D
  have hDn : HB D = none := IB.hok.fresh (Nat.le_of_eq hD)
  obtain ⟨Wv, ⟨m0, w0⟩, turn⟩ := q D hDn
  generalize hsC : ({ sB with heap := sB.heap.push { cls := .type "dict", data := .dict #[] } } : Shared) = sC
  have IC : Inv X pins σ (upd HB D (dTN (gv X ca) D [])) sC := by
    rw [← hsC]
    refine IB.laid (t' := sB.toks) (fun b o e => Heap.get?_push_of_some _ e) (Nat.le_of_eq hD) ?_
    rw [← hD]
    exact dN_empty sB.heap IB.big
  have hC : sC.heap = sB.heap.push { cls := .type "dict", data := .dict #[] } := by rw [← hsC]
  have sz : ∀ b ∈ fp, b < sB.heap.objs.size := fun b hb => by
    obtain ⟨o, e, _⟩ := TT'.obj _ _ stB b hb
    exact Heap.lt_size e
  have fC : ∀ b ∈ fp, FpOk X pins (upd HB D (dTN (gv X ca) D [])) b ∧ b < sC.heap.objs.size := fun b hb => by
    have hlt := sz b hb
    refine ⟨⟨?_, (fB b hb).2⟩, by rw [hC, Heap.size_push]; exact Nat.lt_succ_of_lt hlt⟩
    rw [upd_ne (by rw [← hD]; exact Nat.ne_of_lt hlt)]
    exact (fB b hb).1
  have stC : tn 0 sC.heap := TT'.keep _ _ _ stB fun b _ o e => by rw [hC]; exact Heap.get?_push_of_some _ e
  have I4 := block_start IC ok hN fC
  generalize hH3 : upd HB D (dTN (gv X ca) D []) = H3 at IC I4 w0 fC
  generalize hcl : cellsFrom (sC.heap.objs.size + 1) scope.names (cloFrom X.env.cells scope.names []) = cl at I4
  have pg := hg sC H3 sC.heap.objs.size cl fp
  have pt := ht sC H3 sC.heap.objs.size cl fp
  have pk := hk sC H3 sC.heap.objs.size cl fp
  have pe := he sC H3 sC.heap.objs.size cl fp
  have nfp : ∀ b ∈ fp, H3 b = none := fun b hb => (fC b hb).1.1
  show codeAny _ _ (.compStart (.DictComp kx vx [⟨tg, iter, ifs, 0⟩] scope pos) 0 (.ref it) (.ref D) (compEnvC scope cl sC.heap.objs.size X.env)) (compPost (model X.prog X.w) X.A X.xe use Qf (.ref D) sC.heap.objs.size) { sC with heap := pushCells (sC.heap.push { cls := .type "dict", data := .dict #[] }) scope.names }
  generalize hce : compEnvC scope cl sC.heap.objs.size X.env = ce at I4 pg pt pk pe ⊢
  have cL : ce.locals = sC.heap.objs.size := by subst hce; rfl
  generalize hs4 : ({ sC with heap := pushCells (sC.heap.push { cls := .type "dict", data := .dict #[] }) scope.names } : Shared) = s4 at I4 ⊢
  have st4 : tn 0 s4.heap := TT'.keep _ _ _ stC fun b _ o e => by rw [← hs4]; exact pushCells_keeps _ _ _ _ (Heap.get?_push_of_some _ e)
  have stat : ∀ {σ' : L2.St} {H' : Hp} {s' : Shared}, Inv (X.blk sC H3 scope ce fp) [] σ' H' s' → (∀ b ∈ fp, H' b = none) → ∀ b ∈ fp, FpOk (X.blk sC H3 scope ce fp) [] H' b := fun {σ' H' s'} I' hn b hb =>
    ⟨hn b hb, (I'.ok.exf b hb).1, I'.ok.exfs b hb, .inl hb, fun x c e => (I'.ok.exf b hb).2 x c e, fun p hp => absurd (show p ∈ ([] : List (Addr × Obj)) ++ [] from hp) (by simp)⟩
  have loop : codeAny (model X.prog X.w) X.A (.compLoop (.DictComp kx vx [⟨tg, iter, ifs, 0⟩] scope pos) 0 (.ref it) (.ref D) ce) (compPost (model X.prog X.w) X.A X.xe use Qf (.ref D) sC.heap.objs.size) s4 := by
    refine compLoop_anyD (fun n s' => ∃ i H', Inv (X.blk sC H3 scope ce fp) [] (L2.wipe σ (own.map (·.2))) H' s' ∧ tn i s'.heap ∧ (∀ b ∈ fp, H' b = none) ∧ Wv i n H') ?_ m0 ⟨0, H3, I4, st4, nfp, w0⟩
    rintro n s5 ⟨i, H5, I5, st5, n5, w5⟩
    rcases turn i n H5 w5 with ⟨stop, qq⟩ | ⟨go, N, hNx, step⟩
    · refine thnF (TT'.done (X.blk sC H3 scope ce fp) rfl rfl rfl hc i [] s5 _ H5 (fun _ _ => False) I5 (stat I5 n5) st5 stop) fun r s6 ⟨hr, I6⟩ => ?_
      subst hr
      have I7 : Inv X pins σ H5 s6 := IC.call' (ch := fp) I6.os I6.base I6.hok I6.bare fun b hb => ⟨(fC b hb).1.2.2.2.1, (fC b hb).1.2.1, (fC b hb).1.2.2.2.2.1, (fC b hb).1.2.2.2.2.2⟩
      have nC : H5 sC.heap.objs.size = none := by
        have z : H5 ce.locals = none := I6.free
        rw [cL] at z
        exact z
      obtain ⟨m, hn, _⟩ := I6.loc
      have hn : s6.heap.Ns ce.locals m := hn
      rw [cL] at hn
      exact hRR D _ s6 m H5 I7 qq hn (IC.fpOk (H' := H5) (Nat.le_refl _) nC)
    · refine thnF (TT'.item (X.blk sC H3 scope ce fp) rfl rfl rfl hc i [] s5 _ H5 (fun _ _ => False) I5 (stat I5 n5) st5 go) fun r s6 ⟨u, hr, h6⟩ => ?_
      subst hr
      refine thnF h6 fun _ s7 ⟨x, H7, I7, r7, y7, st7, n7⟩ => ?_
      have I7' := I7.pinned (stat I7 n7) (TT'.obj _ _ st7)
      refine thnF (pg.run _ s7 _ H7 x u _ I7' r7 (step x H7 y7)) fun _ s8 ⟨σ8, H8, I8, hw8, q8⟩ => ?_
      refine thnF (pt.run _ s8 σ8 H8 _ I8 q8) fun b s9 ⟨H9, I9, q9⟩ => ?_
      have fin : ∀ {s' : Shared} {H' : Hp}, Inv (X.blk sC H3 scope ce fp) ([] ++ pinsAt fp s7.heap) σ8 H' s' → N H' → ∃ m, m < n ∧ ∃ i H', Inv (X.blk sC H3 scope ce fp) [] (L2.wipe σ (own.map (·.2))) H' s' ∧ tn i s'.heap ∧ (∀ b ∈ fp, H' b = none) ∧ Wv i m H' := fun {s' H'} I' nx => by
        obtain ⟨m', hm, w'⟩ := hNx H' nx
        have pin' : ∀ b ∈ fp, ∀ o, s7.heap.get? b = some o → s'.heap.get? b = some o ∧ H' b = none := fun b hb o e =>
          let z := I'.pin (b, o) (List.mem_append_right _ (List.mem_append_right _ (mem_pinsAt hb e)))
          ⟨z.1, z.2.1⟩
        have hl : (L2.wipe σ (own.map (·.2))).length = σ8.length := by rw [← hw8, wipe_length]
        refine ⟨m', hm, i + 1, H', (I'.unpinned (pins := [])).weak hl (fun j v e => ?_), TT'.keep _ _ _ st7 fun b hb o e => (pin' b hb o e).1, fun b hb => ?_, w'⟩
        · rw [← hw8] at e
          exact (wipe_some e).1
        · obtain ⟨o, e, _⟩ := TT'.obj _ _ st7 b hb
          exact (pin' b hb o e).2
      cases b with
      | false =>
        simp only [Bool.false_eq_true, if_false] at q9 ⊢
        exact fin I9 q9
      | true =>
        simp only [if_true] at q9 ⊢
        refine thnF (pk.run _ s9 σ8 H9 _ I9 q9) fun z s10 ⟨yk, H10, I10, r10, q10⟩ => ?_
        refine thnF (pe.run _ s10 σ8 H10 _ I10 q10) fun z2 s11 ⟨yv, H11, I11, r11, q11⟩ => ?_
        exact dN_store (X := X.blk sC H3 scope ce fp) (ca := ca) hu I11 r10 r11 q11 fun s12 H12 I12 nx => fin I12 nx
  exact codeAny_compStart_dict loop (TT'.self X.A 0 _ _ _ st4 loop)
end
section
variable {W : WX} {X : Cx} {ca : Ca} {pn : List Nat} {kx vx tg iter : Expr} {ifs : List Expr} {scope : Scope} {own : List (Str × Nat)} {pos spos py : Pos} {h : O → M Unit} {ft : M Bool} {fk fv : M O} {fi : M (List D)} {i : Nat} {y : Str}
theorem s_setDc (hu : X.A.units + 65 < cLine) (hc : X.calm = true) (hN : X.N.Nodup) (hy : X.N[i]? = some y) (hyl : X.env.scope.names.lookup y = some .local) (hp : i ∉ pn) (hsw : swapsWith (.DictComp kx vx [⟨tg, iter, ifs, 0⟩] scope pos) (some (.Name y py)) spos.line X.env = pure true)
    (hi : PI X tg iter (Ti (gv X ca) W fi)) (ok : BlkOk X.N X.env.scope scope own)
    (hg : ∀ (s : Shared) (H : Hp) (C : Addr) (cl : List (Str × Addr)) (fp : List Addr), PG (X.blk s H scope (compEnvC scope cl C X.env) fp) tg (Tg (gv X ca) W0 (others X.N.length (own.map (·.2))) h))
    (ht : ∀ (s : Shared) (H : Hp) (C : Addr) (cl : List (Str × Addr)) (fp : List Addr), PTs (X.blk s H scope (compEnvC scope cl C X.env) fp) ifs (Tt (gv X ca) W0 ft))
    (hk : ∀ (s : Shared) (H : Hp) (C : Addr) (cl : List (Str × Addr)) (fp : List Addr), PE (X.blk s H scope (compEnvC scope cl C X.env) fp) kx (T (gv X ca) W0 fk))
    (he : ∀ (s : Shared) (H : Hp) (C : Addr) (cl : List (Str × Addr)) (fp : List Addr), PE (X.blk s H scope (compEnvC scope cl C X.env) fp) vx (T (gv X ca) W0 fv)) (hs : ∀ x, foldedSetIterable iter X.env x = pure x := by intro _; rfl) :
    PS X (.Assign [.Name y py] (.DictComp kx vx [⟨tg, iter, ifs, 0⟩] scope pos) spos) (Ts (gv X ca) W pn (setS i (dcF (own.map (·.2)) fi h ft fk fv))) := by
  refine ⟨fun pins s σ H D I ⟨F, Gx, ρ, st, r⟩ => ?_⟩
  have q : tDn (gv X ca) (Ti (gv X ca) W fi) (Tg (gv X ca) W0 (others X.N.length (own.map (·.2))) h) (Tt (gv X ca) W0 ft) (T (gv X ca) W0 fk) (T (gv X ca) W0 fv) (own.map (·.2)) σ H (fun x H1 => D.nx (σ.set i (some x)) H1) :=
    dc_ask (W := W) I.len.symm ⟨F, Gx, ρ, st, r.expr.mono fun o H' F' ρ' le r1 v st' => Ts_nx (Ts_put hp st' r1)⟩
  rw [exec_Assign_Name_used _ _ _ _ hsw]
  refine wpAny_bind (wpAny_standAt (wpAny_bind ?_))
  show wpAny _ X.A (do let _ ← comprehension (.DictComp kx vx [⟨tg, iter, ifs, 0⟩] scope pos) scope X.env (firstIterPos [⟨tg, iter, ifs, 0⟩] pos) newDict (firstAsync [⟨tg, iter, ifs, 0⟩]) (firstIter [⟨tg, iter, ifs, 0⟩] X.env) (some (assign (.Name y py) X.env))) _ _ s
  refine wpAny_bind (thn (dn_core (Qf := fun _ s' => SP X pins D .next s') I hu hc hN hi ok hg ht hk he hs q fun L C s' m H' I' qq hn fp => ?_) fun _ s' hq => wpAny_pure (wpAny_pure hq))
  show wpAny _ _ (assign (.Name y py) X.env (.ref L)) _ _ _
  refine wpAny_assign_Name (store_ok2 (v := V.ref L) I' hN hy (.inl hyl) rfl (fun s2 I2 hh => ?_) (.inr hyl))
  obtain ⟨a, sb, ha⟩ := hh
  obtain ⟨f0, f1, f2, f3, f4, f5⟩ := fp
  have ne : C ≠ a := ha.elim (fun z => by rw [z]; exact f1) fun z e => f4 y a z e.symm
  exact ⟨m, hn.sameBut sb ne, fun h3 sb3 => ⟨_, H', I2.turned (t' := s2.toks) (fun b o hb e => (sb3.2 b hb).trans e) f0 f1 f3 f4 f5, qq⟩⟩
end
end PF

set_option Elab.async false
set_option linter.all false
set_option maxRecDepth 100000
set_option maxHeartbeats 2000000
namespace PF
open PySem PySem.Spec PyProof.Rows L2 LamX NdefX

/-! ### a lambda without parameters, handed to a def that calls it in a try -/
section
variable {X : Cx} {pins : List (Addr × Obj)} {σ : L2.St} {H : Hp} {s : Shared}
theorem lam_new {c P : Addr} {params : Arguments} {body : Expr} {scope : Scope} {pos : Pos} {E : Value → Shared → Prop} {Q : Value → Shared → Prop} (I : Inv X pins σ H s) (TB : TabB X.base X.mg c P) (hcode : X.env.code = .ref c) (hdef : defaultsOf params X.env = ([], []))
    (hfr : ∀ y ∈ scope.names, y.2 = .free → ∃ c, X.env.cells.lookup y.1 = some c)
    (hT : ∃ ps : Array Value, H P = some (.tbl ps) ∧ TriplesOk ps.toList ∧ ∀ (pos : Pos) (cv : Value), codeAmong pos ps.toList = some cv → ∃ c, cv = .ref c ∧ H c = some (CodeO c (X.env.qual ++ "<lambda>")))
    (h : ∀ (f c' : Addr) (pm ctv : Value) (H1 : Hp) (s' : Shared), Inv X pins σ H1 s' → TabStep H P c' (X.env.qual ++ "<lambda>") H1 →
      s'.heap.get? f = some (PySem.W.kla_obj "<lambda>" (X.env.qual ++ "<lambda>") params body scope (cloFrom X.env.cells scope.names []) pm c' ctv) → H1 f = none → f ∉ frs X.stack → H1 c' = some (CodeO c' (X.env.qual ++ "<lambda>")) → Q (.ref f) s') :
    wpAny (model X.prog X.w) X.A (eval (.Lambda params body scope pos) X.env) Q E s := by
  obtain ⟨ps, hP, ht, ha⟩ := hT
  refine PySem.W.kla_eval hdef ?_
  have hB : s.heap.BuiltinsAt X.mg P := TB.bm.keeps I.bk
  have gP : s.heap.get? P = some { cls := .none, data := .fields ps } := I.hok P _ hP
  have hG : s.heap.Ns mainGlobals X.mg := I.mod.glob.keeps I.bk
  have hC : PySem.W.CodeHd s.heap c P := TB.code.keeps I.bk
  have nofr : ∀ f, s.heap.objs.size ≤ f → f ∉ frs X.stack := fun f hf z => by
    rcases List.mem_cons.mp (I.stkSub _ z) with e | e
    · have h1 := I.lt
      rw [← e] at h1
      exact Nat.lt_irrefl _ (Nat.lt_of_lt_of_le h1 hf)
    · exact I.nofs hf e
  cases hc : codeAmong pos ps.toList with
  | none =>
    refine PySem.W.kla_makeFunction (mg := X.mg) (closure_ok hfr) I.ok.glob hG hcode hC gP ht hc TB.gP hB fun c' ctv h' tk hx hge hlt hrec htb => ?_
    obtain ⟨c2, oc, vs, t, e2, hoc, hd, hv⟩ := hrec
    cases e2
    have nC : H c' = none := I.hok.fresh hge
    have I1 := inv_table (t' := tk) (more := #[rawInt pos.line, rawInt pos.col, .ref c']) (h' := h') I hP (fun b o nb z => hx b o nb z) htb hge ⟨oc, vs, t, hoc, hd, hv⟩
    have I2 := I1.kept (h' := h'.push (PySem.W.kla_obj "<lambda>" (X.env.qual ++ "<lambda>") params body scope (cloFrom X.env.cells scope.names []) ((X.mg "__name__").getD .none) c' ctv)) (t' := tk) fun b o z => Heap.get?_push_of_some _ z
    have eL : (ps ++ #[rawInt pos.line, rawInt pos.col, .ref c']).toList = ps.toList ++ [rawInt pos.line, rawInt pos.col, .ref c'] := by simp
    have hsz : s.heap.objs.size ≤ h'.objs.size := Nat.le_trans hge (Nat.le_of_lt hlt)
    refine h _ c' _ ctv _ _ I2 ⟨ps, hP, .inr ⟨_, nC, rfl, by rw [eL]; exact PySem.TriplesOk_snoc _ _ _ _ ht, fun p' cv hcv => ?_⟩⟩ (Heap.get?_push_size _ rfl) (I1.hok.fresh (Nat.le_refl _)) (nofr _ hsz) upd_same
    rw [eL] at hcv
    exact (among_app _ ht hcv).symm
  | some cv =>
    obtain ⟨c', e, hco⟩ := ha pos cv hc
    subst e
    refine PySem.W.kla_makeFunctionHit (mg := X.mg) (closure_ok hfr) I.ok.glob hG hcode hC gP ht hc hB fun ctv h' tk hx hsz => ?_
    have I1 : Inv X pins σ H { s with heap := h'.push (PySem.W.kla_obj "<lambda>" (X.env.qual ++ "<lambda>") params body scope (cloFrom X.env.cells scope.names []) ((X.mg "__name__").getD .none) c' ctv), toks := tk } := I.kept fun b o e => Heap.get?_push_of_some _ (hx b o e)
    exact h _ c' _ ctv H _ I1 ⟨ps, hP, .inl ⟨rfl, pos, hc⟩⟩ (Heap.get?_push_size _ rfl) (I.hok.fresh hsz) (nofr _ hsz) hco
end
section
variable {g : Gv} {H F Gx : Hp} {σ : L2.St} {ρ : Sls} {L : List (V × O)}
/-- the code object alone -/
theorem StG.code (st : StG g H F Gx σ ρ L) {p : Addr × Str} (hp : p ∈ g.ca.tb) (hu : ∀ p' ∈ g.ca.tb, p'.1 = p.1 → p' = p) {c' : Addr} {H1 : Hp} (hs : TabStep H p.1 c' p.2 H1) :
    ∃ F1, Le F F1 ∧ StG g H1 F1 Gx σ ρ L := by
  obtain ⟨S, hT, _⟩ := st.gd.ex
  obtain ⟨t1, t2, t3, ps0, t4, t5, t6⟩ := hT p hp
  obtain ⟨ps1, e0, hs⟩ := hs
  rw [t4] at e0; cases e0
  rcases hs with ⟨rfl, pos, hc⟩ | ⟨ps, nC, rfl, ht, ha⟩
  · exact ⟨F, Le.refl _, st⟩
  · have ne : p.1 ≠ c' := fun z => by rw [z, nC] at t4; cases t4
    obtain ⟨le1, g1⟩ := st.gd.newF (u := CodeO c' p.2) nC
    have g2 := Good.tab g1 hp ht fun p' hp' e pos cv hc => by
      rw [hu p' hp' e]
      rcases ha pos cv hc with rfl | hc2
      · exact ⟨c', rfl, upd_same⟩
      · obtain ⟨c, e1, e2⟩ := t6 pos cv hc2
        exact ⟨c, e1, le1 _ _ e2⟩
    rw [upd_comm (Ne.symm ne)] at g2
    exact ⟨_, le1, st.wf, st.len, g2⟩
end
end PF

set_option Elab.async false
set_option linter.all false
set_option maxRecDepth 100000
set_option maxHeartbeats 2000000
namespace PF
open PySem PySem.Spec PyProof.Rows L2 LamX NdefX
/-- what the suite answers to an exception: n slots, the exception in slot i -/
def wfRun (n i : Nat) (hs : M Out) (e : Exn) : Option D := match hs ((List.replicate n none).set i (some (.val (.exn e.cls e.ns e.vs)))) with
  | some (.ok (.rt (.val d)), _) => if xf d = true then some d else none
  | _ => none
/-- a word of what a lambda does: None, or what the suite answers -/
def wordF (n i : Nat) (cov : Nat → Option Bool) (hs : M Out) (m : M O) : M O := fun ρ => match m ρ with
  | some (.ok _, ρ') => some (.ok (.val .non), ρ')
  | some (.ex e, ρ') => match cov e.cls with
    | some true => (match wfRun n i hs e with
      | some d => some (.ok (.val d), ρ')
      | none => none)
    | _ => none
  | none => none
/-- the exceptions that such a def answers, with what is wanted of the answer -/
def wEx (g : Gv) (n i : Nat) (cov : Nat → Option Bool) (hs : M Out) (Q : VK) : XK := fun cls d H' => ∃ (e : Exn) (F Gx : Hp) (r : D), cls = .ref (g.ca e.cls) ∧ XAt g F e d ∧ Good g H' F Gx [] ∧ cov e.cls = some true ∧ wfRun n i hs e = some r ∧
  ∀ v H'' F'', Le F F'' → Good g H'' F'' Gx [(v, .val r)] → Q v H''
/-- a def that calls the lambda it got in a try -/
structure WordK (P : Program) (w : World) (K : PySem.W.Frag) (mg : Str → Option Value) (base : Heap) (ca : Ca) (k : Nat) (x : Str) (n i : Nat) (cov : Nat → Option Bool) (hs : M Out) : Prop where
  ex : ∃ (g : Addr) (fd : FuncData) (Ng : List Str) (qg a : Str) (sg : Scope) (cdg : Value), mg x = some (.ref g) ∧ PySem.W.keepIn K (.ref g) = true ∧ Binds K fd [a] [] ∧ Ng[0]? = some a ∧ Vis sg a ∧ (a == ("__debug__" : Str)) = false ∧ (a == ("__classdict__" : Str)) = false ∧
    ∀ (A : Around) (outer : List Env) (s : Shared) (H : Hp) (args : Args) (fl c' : Addr) (q : Str) (tl : XK → Hp → VK → Prop) (Q : VK), Room (k + 1) A → Env0 P w K mg base A outer s H → BindsTo s fd args [(a, .ref fl)] →
      (∀ (W : WX) (pn : List (Addr × Obj)) (xe : Value → Shared → Prop) (E : XK) (p1 p2 : Pos), Takes ((cxOf (L2.CX P w) P w K mg base Ng qg sg g cdg A outer s H (fun _ _ _ => False)).tr pn xe) W → (∀ cls d σ' H', E cls d H' → W cls d σ' H') →
        PE ((cxOf (L2.CX P w) P w K mg base Ng qg sg g cdg A outer s H (fun _ _ _ => False)).tr pn xe) (.Call (.Name a p1) [] [] p2) (fun σZ HZ Q => σZ[0]? = some (some (.ref fl)) ∧ HZ c' = some (CodeO c' q) ∧ tl E HZ Q)) →
      H c' = some (CodeO c' q) → tl (wEx ⟨P, w, K, ca⟩ n i cov hs Q) H (fun _ H' => Q .non H') →
      codeAny (model P w) A (.call (.ref g) args) (CR (L2.CX P w) outer P w H s Q (fun _ _ _ => False)) s
theorem takes_len {X : Cx} {W : WX} (tk : Takes X W) : Takes X (fun c d σ H => σ.length = X.N.length → W c d σ H) := fun u s' ⟨a, B, sI, pins, σ, H, cls, d, e, I, nb, up, sky, na, os, ag, w⟩ =>
  tk u s' ⟨a, B, sI, pins, σ, H, cls, d, e, I, nb, up, sky, na, os, ag, w I.len⟩
section
variable {P : Program} {w : World} {K : PySem.W.Frag} {mg : Str → Option Value} {base : Heap} {ca : Ca}
theorem slL_rep (n : Nat) : ∀ (σ : L2.St), slL σ (List.replicate n none) = []
  := by
  induction n with
  | zero => intro σ; cases σ with | nil => rfl | cons s σ => cases s <;> rfl
  | succ n ih =>
    intro σ
    cases σ with
    | nil => rfl
    | cons s σ => rw [List.replicate_succ, slL_none]; exact ih σ
/-- THE RULE for such a def -/
theorem d_word {x qual a e T : Str} {params : Arguments} {scope : Scope} {f : Addr} {fd : FuncData} {N : List Str} {i : Nat} {b₀ : Stmt} {suite : List Stmt} {p1 p2 p3 p4 p5 p6 p7 p8 : Pos} {j : Nat} {c : Value} {cov : Nat → Option Bool} {hs : M Out} {body : List Stmt}
    (h0 : ca.xa = none) (Fu : FunD K x qual params body scope [] [] f fd) (gl : mg x = some (.ref f)) (bd : Binds K fd [a] []) (S : FnScope N [a] scope)
    (hb : body = [.Try [.Expr (.Call (.Name a p1) [] [] p2) p3] [.ExceptHandler (some (.Name T p4)) (some e) (b₀ :: suite) p5] [] [] p6, .Return (some (.Constant .none j p7)) p8])
    (hN0 : N[0]? = some a) (hva : Vis scope a) (hd : (a == ("__debug__" : Str)) = false) (hcd : (a == ("__classdict__" : Str)) = false) (hN : N.Nodup) (hi : N[i]? = some e) (hln : ∀ (cdv : Value) (s : Shared), (envOfC qual scope s.heap.objs.size f cdv).kindOf e = some .local)
    (hc : ∀ (cdv : Value) (A : Around) (outer : List Env) (s : Shared) (H : Hp), Names (cxOf (L2.CX P w) P w K mg base N qual scope f cdv A outer s H (fun _ _ _ => False)) T c)
    (hcov : ∀ k b, cov k = some b → PySem.W.exmOne K (.ref (ca k)) c = some b)
    (hsu : ∀ (cdv : Value) (A : Around) (outer : List Env) (s : Shared) (H : Hp) (a : Addr) (oe : Obj) (d : Option Addr) (k : Nat) (pn' : List (Addr × Obj)), Room 0 (A.deeper (envOfC qual scope s.heap.objs.size f cdv)) → cov k = some true → Zc (.ref (ca k)) d oe → (∃ vs, oe.data = .fields vs) →
      PSs ((cxOf (L2.CX P w) P w K mg base N qual scope f cdv A outer s H (fun _ _ _ => False)).suite a ((a, oe) :: pn')) (b₀ :: suite) (Ts ⟨P, w, K, ca.with a d k⟩ W0 [] hs))
    (hsw : ∀ (X : Cx), swapsWith (.Call (.Name a p1) [] [] p2) none p3.line X.env = pure false) :
    WordK P w K mg base ca k x N.length i cov hs := by
  subst hb
  obtain ⟨at_, tb, xa⟩ := ca
  have h0 : xa = none := h0
  subst h0
  have kp := Fu.kp
  obtain ⟨oc, od, dV, kV, doc, pm, an, cdv, ct, osl, rfl, lk, hcd2, _, _⟩ := Fu.ex
  refine ⟨f, _, N, qual, a, scope, cdv, gl, kp, bd, hN0, hva, hd, hcd, fun A outer s H args fl c' q tl Q hr e0 hbnd act hco htl => ?_⟩
  refine run_ofS (N := N) (ps := [a]) (us := [.ref fl]) (vs := [.ref fl]) lk hcd2 S (hr.mono (Nat.le_refl _)) e0 hbnd (.cons rfl .nil) rfl fun hr' => ?_
  have hi' : i < N.length := (List.getElem?_eq_some_iff.mp hi).1
  have h0N : 0 < N.length := (List.getElem?_eq_some_iff.mp hN0).1
  have hst0 : (L2.start N [V.ref fl])[0]? = some (some (V.ref fl)) := by simp [L2.start]
  have hstl : (L2.start N [V.ref fl]).length = N.length := by simp [L2.start]; omega
  refine ⟨_, pss_cons (ps_try_as (X := cxOf (L2.CX P w) P w K mg base N qual scope f cdv A outer s H (fun _ _ _ => False)) (i := i) (c := c)
      (tb := fun W D σ H => ∃ Ech : XK, (∀ cls d σ' H', Ech cls d H' → σ'.length = N.length → W cls d σ' H') ∧ σ[0]? = some (some (.ref fl)) ∧ H c' = some (CodeO c' q) ∧ tl Ech H (fun _ H' => D.nx σ H'))
      (ts := fun a cls d D σ H => ∃ k, cov k = some true ∧ cls = .ref (at_ k) ∧ Ts ⟨P, w, K, (Ca.with ⟨at_, tb, none⟩ a d k)⟩ W0 [] hs D σ H)
      (Wout := fun _ _ _ _ => False) rfl rfl hN hi (hln cdv s) (hc cdv A outer s H) L2.takes0 (fun W pn xe tk _ => ?_) (fun a oe cls d pn' hz hd => ⟨fun pins s1 σ1 H1 D I ⟨k, hk, hcl, h⟩ => (hsu cdv A outer s H a oe d k pn' (hr'.mono (Nat.zero_le _)) hk (by rw [hcl] at hz; exact hz) hd).run pins s1 σ1 H1 D I h⟩))
      (pss_one (ps_ret pe_non)), ?_⟩
  · refine ⟨fun pins s1 σ1 H1 D I1 h' => ?_⟩
    obtain ⟨Ech, hW, h1, h2, h3⟩ := h'
    have hp := act (fun c d σ H => σ.length = N.length → W c d σ H) pn xe Ech p1 p2 (takes_len tk) hW
    exact (pss_one (ps_expr (pos := p3) hp (hsw _))).run pins s1 σ1 H1 D I1 ⟨h1, h2, h3⟩
  · refine ⟨wEx ⟨P, w, K, ⟨at_, tb, none⟩⟩ N.length i cov hs Q, fun cls d σ' H' hx hlen => ?_, hst0, hco, htl⟩
    obtain ⟨ex, F, Gx, r, hcl, hx1, hg, hcv, hwf, hQ⟩ := hx
    subst hcl
    refine ⟨true, hcov _ _ hcv, fun _ a ha => ⟨ex.cls, hcv, rfl, F, Gx, (List.replicate N.length none).set i (some (.val (.exn ex.cls ex.ns ex.vs))), ?_, ?_⟩, fun z => nomatch z⟩
    · have st1 : StG ⟨P, w, K, ⟨at_, tb, none⟩⟩ H' F Gx σ' (List.replicate N.length none) [] := by
        refine ⟨fun j o e => ?_, by simp [hlen], by rw [slL_rep]; exact hg⟩
        rw [List.getElem?_replicate] at e
        split at e <;> cases e
      have st2 : StG ⟨P, w, K, Ca.with ⟨at_, tb, none⟩ a d ex.cls⟩ H' F Gx σ' (List.replicate N.length none) [] := conv_S (free_S st1) st1
      exact (st2.ofVal (v := .ref a) (d := .exn ex.cls ex.ns ex.vs) hx1.rep).store (by simp [hi'])
    · unfold wfRun at hwf
      unfold Rs
      cases hh : hs ((List.replicate N.length none).set i (some (.val (.exn ex.cls ex.ns ex.vs)))) with
      | none => rw [hh] at hwf; cases hwf
      | some q =>
        obtain ⟨z, ρ2⟩ := q
        rw [hh] at hwf
        cases z with
        | ex e2 => cases hwf
        | ok out =>
          cases out with
          | nx => cases hwf
          | bk => cases hwf
          | ct => cases hwf
          | rt o =>
            cases o with
            | lst os => cases hwf
            | dct b ks os => cases hwf
            | ins c2 ns os => cases hwf
            | val d1 =>
              by_cases hxf : xf d1 = true
              · simp only [if_pos hxf] at hwf
                cases hwf
                intro H2 F2 σ2 le2 p2 v st4
                have g1 : Good ⟨P, w, K, Ca.with ⟨at_, tb, none⟩ a d ex.cls⟩ H2 F2 Gx [(v, .val r)] := Good.dropL (A := slL σ2 ρ2) (st4.gd.perm List.perm_append_comm)
                exact hQ v H2 F2 le2 (conv_G (fun p hp => by rw [List.mem_singleton.mp hp]; exact hxf) g1)
              · simp only [if_neg hxf] at hwf
                cases hwf
end
section
variable {W : WX} {X : Cx} {ca : Ca} {k j n i : Nat} {x : Str} {cov : Nat → Option Bool} {hs : M Out} {m : M O} {c P : Addr} {params : Arguments} {body : Expr} {scope : Scope} {p lpos pos : Pos}
/-- x(lambda: body) -/
theorem e_word (Wd : WordK X.prog X.w X.K X.mg X.base ca k x n i cov hs) (hr : Room (j + 2) X.A) (hk : k ≤ j + 1) (TB : TabB X.base X.mg c P) (hcode : X.env.code = .ref c) (hp : (P, X.env.qual ++ "<lambda>") ∈ ca.tb) (hu : ∀ p' ∈ ca.tb, p'.1 = P → p' = (P, X.env.qual ++ "<lambda>"))
    (L : LamS X.env.scope scope)
    (hbody : ∀ (A : Around) (outer : List Env) (s : Shared) (H : Hp) (E : XK) (f c' : Addr), Room j (A.deeper (lamEnv X scope s.heap.objs.size f c')) → PE (lamCx X A outer s H E scope f c') body (T (gv X ca) (fun c d _ H => E c d H) m))
    (hdef : defaultsOf params X.env = ([], []) := by rfl)
    (hbind : ∀ (q : Str) (cl : List (Str × Addr)) (pm cv ctv : Value), bindArgs (PySem.W.kla_fn "<lambda>" q params body scope cl pm cv ctv) ⟨[], []⟩ = pure [] := by intros; rfl)
    (hg : Gl X x := by rfl) (hdb : (x == ("__debug__" : Str)) = false := by decide) : PE X (.Call (.Name x p) [.Lambda params body scope lpos] [] pos) (T (gv X ca) W (wordF n i cov hs m)) := by
  refine ⟨fun pins s σ H Q I h => ?_⟩
  obtain ⟨F, Gx, ρ, st, r⟩ := h
  obtain ⟨g, fd, Ng, qg, a, sg, cdg, hm, hkp, hb, hN0, hva, hd, hcd, run⟩ := Wd.ex
  refine wpAny_Call_Name_kw (ld_glob I hg hm ?_ hdb)
  refine PySem.W.callWith_K (h₀ := X.base) I.ok.mod.kin hkp ?_ (by rfl) (by rfl)
  show wpAny _ _ (spliced ((false, eval (.Lambda params body scope lpos) X.env) :: backTo pos (starEach [] X.env))) _ _ s
  refine Calls.spliced_cons (lam_new I TB hcode hdef (L.has I.ok) (st.tabs hp) fun f c' pm ctv H1 s' I1 ts hf hfn hfr hco => ?_)
  refine Calls.spliced_nil ⟨I1.kIn, ?_⟩
  obtain ⟨F1, le1, st1⟩ := st.code hp hu ts
  have rc := run X.A X.stack s' H1 ⟨[.ref f], []⟩ f c' (X.env.qual ++ "<lambda>") (fun E H' Q' => T (gv X ca) (fun c d _ H => E c d H) m σ H' Q') Q (hr.mono (by omega)) I1.env0 (hb s' [.ref f] I1.kIn rfl)
    (fun W pn xe E p1 p2 tk hW => pe_act (i := 0) I1 L hf hfn hfr (hbind _ _ _ _ _) tk hW (hr.deeper _) (fun A outer s H hr2 => hbody A outer s H E f c' hr2) hN0 hva hd hcd) hco (by
      refine ⟨F1, Gx, ρ, st1, ?_⟩
      unfold Rn wordF at r
      unfold Rn
      cases hm : m ρ with
      | none => simp only [hm] at r
      | some q =>
        obtain ⟨z, ρ'⟩ := q
        simp only [hm] at r
        cases z with
        | ok o => exact fun H' F' le v st2 => r H' F' (le1.trans le) .non (st2.drop1.ofVal repN)
        | ex e =>
          simp only at r
          cases hcv : cov e.cls with
          | none => simp only [hcv] at r
          | some b =>
            cases b with
            | false => simp only [hcv] at r
            | true =>
              simp only [hcv] at r
              cases hw : wfRun n i hs e with
              | none => simp only [hw] at r
              | some d0 =>
                simp only [hw] at r
                intro H' F' d le st2 hx
                obtain ⟨Gx', gA, back⟩ := Good.aside (A := []) (B := slL σ ρ') st2.gd
                refine ⟨e, F', Gx', d0, rfl, hx, gA, hcv, hw, fun v H'' F'' le2 g2 => r H'' F'' ((le1.trans le).trans le2) v ?_⟩
                exact StG.ofVal ⟨st2.wf, st2.len, back H'' F'' [] le2 g2.drop1⟩ (Good.val (B := []) g2))
  refine wpAny_call (codeAny_mono rc fun r s2 hq => ?_)
  cases r with
  | error e =>
    obtain ⟨_, _, _, _, _, _, _, _, _, _, _, _, z⟩ := hq
    exact z.elim
  | ok fl =>
    cases fl with
    | ret u => exact I1.after hq
    | next => exact False.elim hq
    | brk => exact False.elim hq
    | cont => exact False.elim hq
end
end PF

set_option Elab.async false
set_option linter.all false
set_option maxRecDepth 100000
set_option maxHeartbeats 1000000
namespace PF
open PySem PySem.Spec PyProof.Rows L2
/-! ### xs.insert(k, v) -/
def insO (k : Int) (o : O) : O → Option O
  | .lst os => if os.length ≤ lim ∧ 0 ≤ k ∧ k ≤ 2 ^ 62 then some (.lst (os.take k.toNat ++ [o] ++ os.drop k.toNat)) else none
  | _ => none
def insF (i : Nat) (fj fe : M O) : M O := (pk i).bind fun b => match b with
  | .lst _ => fj.bind fun oj => (match oj with
    | .val (.int k) => fe.bind fun o => (upM i (insO k o)).bind fun _ => M.pure (.val .non)
    | _ => M.stuck)
  | _ => M.stuck
theorem RepOs.unapp {g : Gv} {H F : Hp} : ∀ {os ps : List O} {ws : List V} {S : Addr → Prop}, RepOs g H F (os ++ ps) ws S → ∃ vs us S1 S2, ws = vs ++ us ∧ vs.length = os.length ∧ (∀ b, S1 b → S b) ∧ (∀ b, S2 b → S b) ∧ (∀ b, S1 b → S2 b → False) ∧ RepOs g H F os vs S1 ∧ RepOs g H F ps us S2
  | [], ps, ws, S, r => ⟨[], ws, fun _ => False, S, rfl, rfl, fun _ h => h.elim, fun _ h => h, fun _ h _ => h, by rw [RepOs], r⟩
  | o :: os, ps, ws, S, r => by
    rw [List.cons_append, RepOs] at r
    obtain ⟨v, us, S1, S2, rfl, sp, r1, rs⟩ := r
    obtain ⟨vs, us', T1, T2, rfl, hl, t1, t2, td, q1, q2⟩ := RepOs.unapp rs
    refine ⟨v :: vs, us', fun b => S1 b ∨ T1 b, T2, rfl, by simp [hl], fun b h => h.elim (sp.l b) fun h => sp.r b (t1 b h), fun b h => sp.r b (t2 b h), fun b h1 h2 => h1.elim (fun h => sp.d b h (t2 b h2)) fun h => td b h h2, ?_, q2⟩
    rw [RepOs]
    exact ⟨v, vs, S1, T1, rfl, ⟨fun b h => .inl h, fun b h => .inr h, fun b h1 h2 => sp.d b h1 (t1 b h2)⟩, r1, q1⟩
theorem ins_run {g : Gv} {σ : L2.St} {H F Gx : Hp} {ρ : Sls} {i : Nat} {o v : O} {o' : O} {x vv : V} {k : Int} (st : StG g H F Gx σ ρ [(vv, v)]) (hi : ρ[i]? = some (some o)) (hx : σ[i]? = some (some x)) (e : insO k v o = some o') :
    ∃ l xs, x = .ref l ∧ H l = some (.lst xs) ∧ xs.length < sizeLine ∧ 0 ≤ k ∧ k < 2 ^ 63 ∧ StG g (upd H l (.lst (xs.take k.toNat ++ [vv] ++ xs.drop k.toNat))) F Gx σ (ρ.set i (some o')) [] := by
  unfold insO at e
  split at e
  · rename_i os
    split at e
    · rename_i hz
      cases e
      obtain ⟨x', S, hx', rx⟩ := st.peek hi
      rw [hx] at hx'; cases hx'
      rw [RepO] at rx
      obtain ⟨a, vs, rfl, _⟩ := rx
      obtain ⟨S1, SA, r1, rA, d, w⟩ := StG.wr (A := [(vv, v)]) (L := []) st hi hx
      rw [RepO] at r1
      obtain ⟨a', vs, e', sa', hH, rs⟩ := r1
      cases e'
      refine ⟨a, vs, rfl, hH, by rw [rs.length]; exact lim_lt hz.1, hz.2.1, by have := hz.2.2; omega, w _ _ sa' ?_⟩
      have hlen := rs.length
      rw [← List.take_append_drop k.toNat os] at rs
      obtain ⟨us, ws, T1, T2, e3, hl, t1, t2, td, q1, q2⟩ := RepOs.unapp rs
      have hu : us = vs.take k.toNat ∧ ws = vs.drop k.toNat := by
        have h1 : us.length = min k.toNat vs.length := by rw [hl, List.length_take, hlen]
        constructor
        · rw [e3, List.take_append, h1]
          have : us.take k.toNat = us := List.take_of_length_le (by rw [h1]; omega)
          rw [this]
          rcases Nat.le_total k.toNat vs.length with h | h
          · rw [Nat.min_eq_left h]; simp
          · have : ws = [] := by
              have h2 := congrArg List.length e3
              rw [List.length_append, h1, Nat.min_eq_right h] at h2
              exact List.length_eq_zero_iff.mp (by omega)
            rw [this]; simp
        · rw [e3, List.drop_append, h1]
          rcases Nat.le_total k.toNat vs.length with h | h
          · rw [Nat.min_eq_left h, List.drop_of_length_le (by rw [h1]; omega)]; simp
          · have : ws = [] := by
              have h2 := congrArg List.length e3
              rw [List.length_append, h1, Nat.min_eq_right h] at h2
              exact List.length_eq_zero_iff.mp (by omega)
            rw [this, List.drop_of_length_le (by rw [h1]; omega)]; simp
      rw [← hu.1, ← hu.2]
      rw [RepO]
      refine ⟨a, _, rfl, .inl sa', upd_same, RepOs.wrote (RepOs.sup g ?_ (RepOs.apps (RepOs.snoc q1 rA.one fun b h1 h2 => d b (t1 b h1).1 h2) q2 ?_)) sa' d⟩
      · exact fun b h => h.elim (fun h => h.elim (fun h => .inl (t1 b h)) .inr) fun h => .inl (t2 b h)
      · exact fun b h1 h2 => h1.elim (fun h => td b h h2) fun h => d b (t2 b h2).1 h
    · cases e
  · cases e
section
variable {W : WX} {X : Cx} {ca : Ca} {a e ej : Expr} {fe fj : M O} {apos cpos : Pos}
theorem e_insert (i : Nat) (ha : PE X a (tVar i)) (hj : PE X ej (T (gv X ca) W fj)) (he : PE X e (T (gv X ca) W fe))
    (hbase : attributeBase a "insert" X.env (eval a X.env) = eval a X.env := by rfl)
    (hfew : ((backTo cpos (starEach [ej, e] X.env)).all (fun x => !x.1) && (backToKw cpos (keywordEach [] X.env)).all (fun x => x.1.isSome)
      && decide (([ej, e] : List Expr).length + ([] : List Keyword).length + (if ([] : List Keyword).isEmpty then 0 else 1) < 30)) = true := by rfl)
    (hline : (apos.endLine == cpos.line) = true := by rfl) (hs : starEach [ej, e] X.env = (false, eval ej X.env) :: starEach [e] X.env := by rfl) (hs2 : starEach [e] X.env = (false, eval e X.env) :: starEach [] X.env := by rfl)
    (hplain : (backTo cpos (starEach [e] X.env)).any (·.1) = false := by rfl) :
    PE X (.Call (.Attribute a "insert" apos) [ej, e] [] cpos) (T (gv X ca) W (insF i fj fe)) :=
  PE.imp (pe_bm PySem.F.plainAttrs_list PySem.F.slot_list_insert PySem.F.type_list_insert mt_insert ha (pa_cons hj (pa_cons he pa_nil hs2) hs) hbase hfew hline hs hplain) fun σ H Q ⟨F, Gx, ρ, st, r⟩ => by
    obtain ⟨o0, h0, r⟩ := r.pk
    obtain ⟨x, S, hx, rx⟩ := st.peek h0
    split at r
    · rename_i os
      rw [RepO] at rx
      obtain ⟨l, vs, rfl, sa, hH, rs⟩ := rx
      refine ⟨_, hx, .inl ⟨rfl, vs, SqL.of hH⟩, F, Gx, ρ, st, r.bind.mono fun vj H1 F1 ρ1 le1 r1 vvj st1 => ?_⟩
      split at r1
      · rename_i k
        have rk := st1.gd.val (B := slL σ ρ1)
        rw [RepV] at rk
        subst rk
        refine ⟨F1, Gx, ρ1, st1.drop1, r1.bind.mono fun v H2 F2 ρ2 le2 r2 vv st2 => ?_⟩
        obtain ⟨o1, o2, h1, h2, r3⟩ := r2.up
        obtain ⟨l', xs, e1, hH1, hz, hk0, hk1, st3⟩ := ins_run st2 h1 hx h2
        cases e1
        exact ⟨l, xs, k, vv, rfl, rfl, hH1, hz, hk0, hk1, (r3 (upd H2 l (.lst (xs.take k.toNat ++ [vv] ++ xs.drop k.toNat)))).pure _ F2 (Le.refl _) .non (st3.ofVal repN)⟩
      · obtain ⟨_, _, e⟩ := r1.run; cases e
    · obtain ⟨_, _, e⟩ := r.run; cases e
end
theorem takes_lam {X : Cx} {A : Around} {outer : List Env} {s : Shared} {H : Hp} {E : XK} {scope : Scope} {f c' : Addr} : Takes (LamX.lamCx X A outer s H E scope f c') (fun c d _ H => E c d H) := takes_of rfl rfl rfl rfl
theorem boot_ValueError : bootBuiltins "ValueError" = some (.type "ValueError") := by decide +kernel
end PF

set_option Elab.async false
set_option linter.all false
set_option maxRecDepth 100000
set_option maxHeartbeats 4000000
/-! ### sets of cells: lists of any length that have fewK unlike ones -/
namespace PF
open PySem PySem.Spec PyProof.Rows L2
/-- as many unlike ones -/
def fewK (ks : List (List Int)) : Prop := ∀ us : List (List Int), us.Nodup → (∀ u ∈ us, u ∈ ks) → us.length < 63
section
variable {Pg : Program} {w : World} {A : Around} {E : Value → Shared → Prop}
open TS in
theorem upd_loop {I : Addr} {fp wr : List Addr} {G : Array GenState → Array GenState → Prop} {n : Nat} {Y : Nat → Value → Prop} {St : Nat → Shared → Prop} {R : Result → Shared → Prop}
    (W : WalksS Pg w A.in1 I fp wr G n Y St) {S : Addr} (hS : S ∉ fp) {ks : List (Addr × List Int)} (hn : n = ks.length) (hf : fewK (ks.map (·.2))) (hv : ∀ i v, Y i v → ∃ p, ks[i]? = some p ∧ v = .ref p.1)
    {hp : Heap} (hk : ∀ p ∈ ks, IsT Pg w hp p.2 p.1) (hs0 : hp.get? S = none) (hw0 : ∀ b ∈ wr, hp.get? b = none) (hu : A.in1.units < cLine) (k : Nat) :
    ∀ (i : Nat) (s : Shared), n - i = k → i ≤ n → St i s → (∀ b o, hp.get? b = some o → s.heap.get? b = some o) → (∃ L es ep t, SetTR Pg w s.heap S L es ep t ∧ Got ks i L) →
      (∀ s' L es ep t, Moved (S :: wr) G s s' → SetTR Pg w s'.heap S L es ep t → Got ks n L → (∀ b o, hp.get? b = some o → s'.heap.get? b = some o) → R (.ok (.ret .none)) s') →
      codeAny (model Pg w) A (.builtin "set.update.loop" ⟨[.ref S, .ref I], []⟩) R s := by
  have stay : ∀ {s s' : Shared}, Moved wr G s s' → (∀ b o, hp.get? b = some o → s.heap.get? b = some o) → ∀ b o, hp.get? b = some o → s'.heap.get? b = some o := fun hm q b o e =>
    hm.heap b o (fun hb => by rw [hw0 b hb] at e; cases e) (q b o e)
  have nw : S ∉ wr := fun z => hS (W.sub _ z)
  induction k with
  | zero =>
    rintro i s ek hi hst q ⟨L, es, ep, t, hR, hG⟩ fin
    obtain rfl : i = n := by omega
    refine codeAny_builtin F.entry_set_update_loop ?_
    rw [Around.under_plainId F.plain_set_update_loop _]
    refine wpAny_bind (m := pyNext (.ref I)) (W.done s _ _ hst fun s' hm => ?_)
    have q' := stay hm q
    have inn : ∀ p ∈ L, p ∈ ks := fun p hp => List.mem_of_mem_take (hG.sub p hp)
    exact wpAny_pure (fin s' L es ep t (hm.mono fun b hb => List.mem_cons_of_mem _ hb) (hR.keep (fun o e => hm.heap S o nw e) fun p hp => isT_keep (hk p (inn p hp)) q') hG q')
  | succ k ih =>
    rintro i s ek hi hst q ⟨L, es, ep, t, hR, hG⟩ fin
    have lt : i < n := by omega
    refine codeAny_builtin F.entry_set_update_loop ?_
    rw [Around.under_plainId F.plain_set_update_loop _]
    refine wpAny_bind (m := pyNext (.ref I)) (W.item i s _ _ lt hst fun v s' hP hst' hm => ?_)
    obtain ⟨p, hp', rfl⟩ := hv i v hP
    have q' := stay hm q
    have inn : ∀ p ∈ L, p ∈ ks := fun p hp => List.mem_of_mem_take (hG.sub p hp)
    have hR' : SetTR Pg w s'.heap S L es ep t := hR.keep (fun o e => hm.heap S o nw e) fun z hz => isT_keep (hk z (inn z hz)) q'
    have hx : IsT Pg w s'.heap p.2 p.1 := isT_keep (hk p (List.mem_of_getElem? hp')) q'
    have short : L.length + 1 < 64 := by
      have z := hf (L.map (·.2)) (by have := hR.nd; exact this) (fun u hu => by
        obtain ⟨x, hx, rfl⟩ := List.mem_map.mp hu
        exact List.mem_map.mpr ⟨x, inn x hx, rfl⟩)
      rw [List.length_map] at z
      omega
    refine wpAny_bind (m := holding [Value.ref p.1] (setAdd S (.ref p.1))) (wpAny_holding ?_)
    unfold setAdd
    refine wpAny_holding (wpAny_bind (wpAny_pyHash_tuple hu hx ?_))
    refine add_at (s := { s' with toks := s'.toks + (p.2.length + 1) }) hR' hx hu short fun b h' L' es' ep' t' hsb hR2 c1 c2 => ?_
    have hG' : Got ks (i + 1) L' := by
      by_cases c : p.2 ∈ L.map (·.2)
      · rw [c1 c]; exact hG.same hp' c
      · exact hG.more hp' (c2 c)
    have q2 : ∀ b o, hp.get? b = some o → h'.get? b = some o := fun b o e => (hsb.2 b (fun z => by rw [z, hs0] at e; cases e)).trans (q' b o e)
    refine wpAny_pure ⟨plainId_quiet F.plain_set_update_loop _, ih (i + 1) _ (by omega) lt (W.frame _ s' _ _ hst' (Nat.le_add_right _ _) fun b hb o e => ?_) q2 ⟨L', es', ep', t', hR2, hG'⟩ fun s2 L2 es2 ep2 t2 hm2 hR3 g2 q3 => ?_⟩
    · rw [hsb.2 b (fun z => hS (z ▸ hb))]; exact e
    · refine fin s2 L2 es2 ep2 t2 (Moved.trans W.gtrans ((hm.mono fun b hb => List.mem_cons_of_mem _ hb).then_heap (Nat.le_add_right _ _) fun b o hb e => ?_) hm2) hR3 g2 q3
      rw [hsb.2 b (fun z => hb (z ▸ List.mem_cons_self))]; exact e
/-- a set without anything in it, as it is made -/
abbrev set0 (w : World) : Obj := { cls := .type "set", dict := none, data := .set #[] 0 (.fresh 0 0 (!w.params.followText "set-order")) }
abbrev hp0 (w : World) (h : Heap) : Heap := h.push (set0 w)
theorem call_setF {s : Shared} {l : Addr} {its : Array Value} {ks : List (Addr × List Int)} {Q : Value → Shared → Prop} (hh : A.handled = none) (hl : s.heap.IsList l its) (hit : its.toList = ks.map fun p => Value.ref p.1)
    (hk : ∀ p ∈ ks, IsT Pg w s.heap p.2 p.1) (hf : fewK (ks.map (·.2))) (hu : A.units + 3 < cLine)
    (q : ∀ (h' : Heap) (tk : Nat) L es ep t, SetTR Pg w h' s.heap.objs.size L es ep t → Got ks ks.length L → (∀ b o, s.heap.get? b = some o → h'.get? b = some o) → Q (.ref s.heap.objs.size) { s with heap := h', toks := tk }) :
    wpAny (model Pg w) A (call (.type "set") [.ref l]) Q E s := by
  have sz : its.size = ks.length := by
    have z := congrArg List.length hit
    simpa using z
  have g0 : (hp0 w s.heap).get? s.heap.objs.size = some (set0 w) := Heap.get?_push_size _ rfl
  have z0 : (hp0 w s.heap).objs.size = s.heap.objs.size + 1 := Heap.size_push ..
  obtain ⟨c, tl, hmro⟩ := F.called_set.mro
  have x1 := F.called_set.made
  have x2 := F.called_set.sub
  have x3 := F.called_set.notType
  have x4 := F.called_set.canCreate
  have x5 := F.typeCall_set_1 (.ref l)
  refine wpAny_call (codeAny_of_tree ?_)
  show wpAny _ _ (callAny (.type "set") _) _ _ _
  refine wpAny_pure ⟨Code.quiet_builtin _ (by decide +kernel), codeAny_builtin F.entry_type_call ?_⟩
  rw [Around.under_plain (weight_type_call_type "set" [.ref l] []) rfl]
  repeat (any_goals (first | assumption | wp_step))
  refine codeAny_mono (code_set_led1 (.ref l) (E := E) (Q₁ := fun ob s1 => ob = .ref s.heap.objs.size ∧ s1 = { s with heap := hp0 w s.heap }) ⟨rfl, rfl⟩) fun r s1 hr => ?_
  match r, hr with
  | .error e, hr => exact hr
  | .ok (.next), hr => exact hr.elim
  | .ok (.brk), hr => exact hr.elim
  | .ok (.cont), hr => exact hr.elim
  | .ok (.ret ob), hr =>
    obtain ⟨rfl, rfl⟩ := hr
    have ty : Shared.TypeIs { s with heap := hp0 w s.heap } (.ref s.heap.objs.size) "set" := ⟨_, g0, rfl⟩
    have y1 := F.called_set.init.lookup
    have y2 := F.called_set.init.bind (.ref s.heap.objs.size)
    repeat (any_goals (first | assumption | wp_step))
    refine codeAny_mono (codeAny_call_builtin (R := wants (fun r s2 => r = .none ∧ ∃ h' tk L es ep t, s2 = { s with heap := h', toks := tk } ∧ SetTR Pg w h' s.heap.objs.size L es ep t ∧ Got ks ks.length L ∧ (∀ b o, s.heap.get? b = some o → h'.get? b = some o)) E)
      F.called_set.init.plain F.entry_set_init (check_set_init_1 ty ?_)) fun r2 s2 hr2 => ?_
    · obtain ⟨⟨oc, od, oda, osl⟩, hol, hcl, nl, hdl⟩ := hl
      simp only at hcl hdl
      subst hcl hdl
      have l0 : (hp0 w s.heap).get? l = some { cls := .type "list", dict := od, data := .seq its nl, slots := osl } := Heap.get?_push_of_some _ hol
      have b1 := F.sub_list_set
      have b2 := F.sub_list_frozenset
      have b3 : (Value.type "list" == Value.type "dict") = false := by decide
      have l1 : (hp0 w s.heap).IsList l its := ⟨_, l0, rfl, nl, rfl⟩
      have llt : l < s.heap.objs.size := Heap.lt_size hol
      have far : ∀ b, s.heap.objs.size ≤ b → s.heap.get? b = none := fun b hb => by
        cases z : s.heap.get? b with
        | none => rfl
        | some o => exact absurd (Nat.lt_of_lt_of_le (Heap.lt_size z) hb) (Nat.lt_irrefl _)
      unfold Builtin.«set.__init__» noKeywords Builtin.Frozenset.updateFrom
      generalize hIT : pyIter = IT
      wp_walk
      subst hIT
      refine wpAny_pyIter_list l1 (wpAny_bind (wpAny_runValue ?_))
      have hh3 : A.in1.in1.in1.handled = none := by simp [hh]
      have neI : l ≠ (hp0 w s.heap).objs.size := by rw [z0]; exact Nat.ne_of_lt (Nat.lt_succ_of_lt llt)
      have nin : s.heap.objs.size ∉ [(hp0 w s.heap).objs.size, l] := by
        rw [z0]
        simp only [List.mem_cons, List.not_mem_nil, or_false, not_or]
        exact ⟨Nat.ne_of_lt (Nat.lt_succ_self _), Nat.ne_of_gt llt⟩
      refine upd_loop ((Walks.list hh3 _ l neI its).toS) nin sz hf (fun i v hv => ?_) hk (far _ (Nat.le_refl _)) (fun b hb => far b (by rw [List.mem_singleton.mp hb, z0]; exact Nat.le_succ _)) hu (its.size - 0) 0 _ (by omega) (Nat.zero_le _)
        ⟨⟨_, Heap.get?_push_size _ rfl, rfl, rfl⟩, l1.push _⟩ (fun b o e => Heap.get?_push_of_some _ (Heap.get?_push_of_some _ e)) ⟨[], #[], 0, _, setTR_fresh (Heap.get?_push_of_some _ g0), Got.zero ks⟩ ?_
      · have z : its.toList[i]? = some v := by rw [Array.getElem?_toList]; exact hv
        rw [hit, List.getElem?_map] at z
        cases y : ks[i]? with
        | none => rw [y] at z; cases z
        | some p => rw [y] at z; exact ⟨p, rfl, (Option.some.inj z).symm⟩
      · rintro ⟨h', gs, dr, tk, os⟩ L es ep t hm hR hG keep
        obtain rfl : gs = s.gens := hm.gens
        obtain rfl : dr = s.drawn := hm.drawn
        obtain rfl : os = s.os := hm.os
        refine wpAny_pure ?_
        show wpAny _ _ (ret Value.none) _ _ _
        refine wpAny_pure ?_
        rw [sz] at hG
        exact ⟨rfl, h', tk, L, es, ep, t, rfl, hR, hG, keep⟩
    · match r2, hr2 with
      | .error e, hr2 => exact hr2
      | .ok (.next), hr2 => exact hr2.elim
      | .ok (.brk), hr2 => exact hr2.elim
      | .ok (.cont), hr2 => exact hr2.elim
      | .ok (.ret ob), hr2 =>
        obtain ⟨rfl, h', tk, L, es, ep, t, rfl, hR, hG, keep⟩ := hr2
        repeat (any_goals (first | assumption | wp_step))
        exact q _ _ _ _ _ _ hR hG keep
end
end PF

set_option Elab.async false
set_option linter.all false
set_option maxRecDepth 100000
set_option maxHeartbeats 4000000
/-! ### len(set(cells)), sorted(set(cells)) -/
namespace PF
open PySem PySem.Spec PyProof.Rows L2
section
variable {X : Cx}
def rSetF (K : PySem.W.Frag) (P : Program) (w : World) : List V → Hp → VK → Prop := fun xs H Q => ∃ (l : Addr) (ks : List (Addr × List Int)), xs = [V.ref l] ∧ SqL K H l (ks.map fun p => V.ref p.1) ∧ (∀ p ∈ ks, SqT K H p.1 (p.2.map V.int)) ∧ fewK (ks.map (·.2)) ∧
  ∀ a L, H a = none → (∀ p ∈ L, p ∈ ks) → (∀ p ∈ ks, p.2 ∈ L.map (·.2)) → (L.map (·.2)).Nodup → Q (.ref a) (upd H a (SetTO P w a L))
theorem cr_setF (hc : X.calm = true) (hu : X.A.units + 64 < cLine) : CallR X (.type "set") (rSetF X.K X.prog X.w) := by
  rintro pins s σ H xs us Q I r ⟨l, ks, rfl, hl, hk, hf, q⟩
  rw [Vals.ref1 r]
  obtain ⟨its, rv, pl, hz⟩ := I.list hl
  refine call_setF (I.ok.hd hc) pl.isList (by simpa using refs_of_vals rv) (fun p hp => I.isT (hk p hp)) hf (by omega) fun h' tk L es ep t R g k => ?_
  exact ⟨.ref s.heap.objs.size, _, I.laid (t' := tk) k (Nat.le_refl _) (setTO_new R.t0), rfl, q _ L (I.hok.fresh (Nat.le_refl _)) (fun p hp => List.mem_of_mem_take (g.sub p hp)) (fun p hp => g.all p (by rw [List.take_length]; exact hp)) R.nd⟩
def rLenSt (K : PySem.W.Frag) (P : Program) (w : World) : List V → Hp → VK → Prop := fun xs H Q => ∃ (a : Addr) (L : List (Addr × List Int)), xs = [V.ref a] ∧ H a = some (SetTO P w a L) ∧ (∀ p ∈ L, SqT K H p.1 (p.2.map V.int)) ∧ Q (.int (L.length : Nat)) H
theorem cr_lenSt : CallR X (.builtin "len") (rLenSt X.K X.prog X.w) := by
  rintro pins s σ H xs us Q I r ⟨a, L, rfl, ha, hk, q⟩
  rw [Vals.ref1 r]
  have R0 : SetT0 X.prog X.w s.heap a L := (I.hok a _ ha).1
  obtain ⟨es, ep, t, R⟩ := R0.full fun p hp => I.isT (hk p hp)
  obtain ⟨o, ho, hex, hd⟩ := R.ob
  have hz := R.size
  have hf := R.few
  have hlt : (es.size : Int) < 2 ^ 63 := by
    have : (2 : Int) ^ 63 = 9223372036854775808 := by decide
    rw [this, hz]; omega
  exact call_len_set ho hex hd R.fits hlt ⟨.int (L.length : Nat), H, I.tok _, ⟨_, by rw [hz]⟩, q⟩
end
abbrev Cel := Int × Int
def celD (c : Cel) : D := .tup [.int c.1, .int c.2]
/-- the cells of the largest floor -/
def gridP : List Cel := (List.range 25).map fun (k : Nat) => (((k / 5 : Nat) : Int), ((k % 5 : Nat) : Int))
def celOf : D → Option Cel
  | .tup [.int a, .int b] => if (a, b) ∈ gridP then some (a, b) else none
  | _ => none
def celsOf : List D → Option (List Cel)
  | [] => some []
  | d :: ds => match celOf d, celsOf ds with
    | some c, some cs => some (c :: cs)
    | _, _ => none
theorem celOf_some {d : D} {c : Cel} (h : celOf d = some c) : d = celD c ∧ c ∈ gridP := by
  unfold celOf at h
  split at h
  · split at h
    · rename_i hg; cases h; exact ⟨rfl, hg⟩
    · cases h
  · cases h
theorem gridP_few {L : List (List Int)} (nd : L.Nodup) (h : ∀ u ∈ L, ∃ c ∈ gridP, u = [c.1, c.2]) : L.length < 63 := by
  have e : L = (L.map fun u => ((u.getD 0 0, u.getD 1 0) : Cel)).map fun c => [c.1, c.2] := by
    rw [List.map_map]
    conv => lhs; rw [← List.map_id L]
    refine List.map_congr_left fun u hu => ?_
    obtain ⟨c, _, rfl⟩ := h u hu
    rfl
  have nd2 : (L.map fun u => ((u.getD 0 0, u.getD 1 0) : Cel)).Nodup := by
    rw [e] at nd
    exact List.Pairwise.of_map (fun c : Cel => [c.1, c.2]) (fun a b hne e => hne (by rw [e])) nd
  have sub : ∀ c ∈ (L.map fun u => ((u.getD 0 0, u.getD 1 0) : Cel)), c ∈ gridP := fun c hc => by
    obtain ⟨u, hu, rfl⟩ := List.mem_map.mp hc
    obtain ⟨z, hz, rfl⟩ := h u hu
    exact hz
  have := nd2.length_le_of_subset sub
  rw [List.length_map] at this
  have g25 : gridP.length = 25 := by decide +kernel
  omega
section
variable {g : Gv} {F : Hp}
/-- the tuples themselves -/
theorem cels_ok : ∀ {ds : List D} {vs : List V} {cs : List Cel}, RepVs g F ds vs → celsOf ds = some cs → ∃ ks : List (Addr × Cel), vs = ks.map (fun p => V.ref p.1) ∧ ks.map (·.2) = cs ∧ (∀ c ∈ cs, c ∈ gridP) ∧ ∀ p ∈ ks, SqT g.K F p.1 [V.int p.2.1, V.int p.2.2] ∧ RepV g F (celD p.2) (.ref p.1)
  | [], vs, cs, r, e => by
    rw [RepVs] at r
    cases e
    exact ⟨[], r, rfl, by simp, by simp⟩
  | d :: ds, vs, cs, r, e => by
    rw [RepVs] at r
    obtain ⟨v, us, rfl, r1, r2⟩ := r
    unfold celsOf at e
    split at e
    · rename_i c cs' h1 h2
      cases e
      obtain ⟨rfl, hg⟩ := celOf_some h1
      obtain ⟨ks, rfl, rfl, hcs, hk⟩ := cels_ok r2 h2
      have r1' := r1
      unfold celD at r1'
      rw [RepV] at r1'
      obtain ⟨a, ws, rfl, hq, rws⟩ := r1'
      rw [RepVs] at rws
      obtain ⟨x, ws1, rfl, rx, rws⟩ := rws
      rw [RepVs] at rws
      obtain ⟨y, ws2, rfl, ry, rws⟩ := rws
      rw [RepVs] at rws
      subst rws
      rw [RepV] at rx ry
      subst rx ry
      refine ⟨(a, c) :: ks, rfl, rfl, fun z hz => ?_, fun p hp => ?_⟩
      · rcases List.mem_cons.mp hz with rfl | hz
        · exact hg
        · exact hcs z hz
      · rcases List.mem_cons.mp hp with rfl | hp
        · exact ⟨hq, r1⟩
        · exact hk p hp
    · cases e
end
/-- without what comes again -/
def ddp : List Cel → List Cel
  | [] => []
  | c :: cs => if c ∈ ddp cs then ddp cs else c :: ddp cs
theorem ddp_mem : ∀ (cs : List Cel) (c : Cel), c ∈ ddp cs ↔ c ∈ cs
  | [], c => by simp [ddp]
  | d :: cs, c => by
    rw [ddp]
    split
    · rename_i h
      rw [ddp_mem cs c, List.mem_cons]
      exact ⟨.inr, fun z => z.elim (fun z => by rw [z]; exact (ddp_mem cs d).mp h) id⟩
    · rw [List.mem_cons, List.mem_cons, ddp_mem cs c]
theorem ddp_nd : ∀ cs : List Cel, (ddp cs).Nodup
  | [] => List.nodup_nil
  | d :: cs => by
    rw [ddp]
    split
    · exact ddp_nd cs
    · rename_i h
      exact List.nodup_cons.mpr ⟨h, ddp_nd cs⟩
def srtC (cs : List Cel) : List Cel := gridP.filter fun c => decide (c ∈ cs)
def lenSetF (f : M O) : M O := f.bind fun o => M.of ((o.dsL.bind celsOf).map fun cs => .val (.int ((ddp cs).length : Nat)))
def srtSetF (f : M O) : M O := f.bind fun o => M.of ((o.dsL.bind celsOf).map fun cs => .lst (((srtC cs).map celD).map .val))
section
variable {W : WX} {X : Cx} {ca : Ca} {e : Expr} {f : M O} {p p2 q pos : Pos}
theorem set_run {o : O} {v : V} {H F Gx : Hp} {σ : L2.St} {ρ : Sls} {S : Addr → Prop} {cs : List Cel} {Q : VK} (st : StG (gv X ca) H F Gx σ ρ []) (rv : RepO (gv X ca) H F o v S) (e1 : (o.dsL.bind celsOf) = some cs)
    (h : ∀ (a : Addr) (L : List (Addr × Cel)) (L0 : List (Addr × List Int)) F', Le F F' → StG (gv X ca) (upd H a (SetTO X.prog X.w a L0)) F' Gx σ ρ [] → L0 = L.map (fun p => (p.1, [p.2.1, p.2.2])) → (L.map (·.2)).Nodup → (∀ c, c ∈ L.map (·.2) ↔ c ∈ cs) → (∀ c ∈ cs, c ∈ gridP) → (∀ p ∈ L, SqT X.K F' p.1 [V.int p.2.1, V.int p.2.2] ∧ RepV (gv X ca) F' (celD p.2) (.ref p.1)) →
      Q (.ref a) (upd H a (SetTO X.prog X.w a L0))) : rSetF X.K X.prog X.w [v] H Q := by
  obtain ⟨ds, e2, e3⟩ := Option.bind_eq_some_iff.mp e1
  obtain ⟨l, vs, rfl, hl, rr⟩ := dsL_ok st.le rv e2
  obtain ⟨ks, rfl, rfl, hg, hk⟩ := cels_ok rr e3
  refine ⟨l, ks.map fun p => (p.1, [p.2.1, p.2.2]), rfl, ?_, ?_, ?_, fun a L0 ha h1 h2 nd => ?_⟩
  · rw [List.map_map]; exact SqL.of hl
  · intro p hp
    obtain ⟨z, hz, rfl⟩ := List.mem_map.mp hp
    exact SqT.mono st.le (hk z hz).1
  · intro us nd hs
    refine gridP_few nd fun u hu => ?_
    have := hs u hu
    rw [List.map_map] at this
    obtain ⟨z, hz, rfl⟩ := List.mem_map.mp this
    exact ⟨z.2, hg _ (List.mem_map.mpr ⟨z, hz, rfl⟩), rfl⟩
  · have ex : ∃ L : List (Addr × Cel), L0 = L.map (fun p => (p.1, [p.2.1, p.2.2])) ∧ ∀ p ∈ L, p ∈ ks := by
      clear h2 nd h
      induction L0 with
      | nil => exact ⟨[], rfl, by simp⟩
      | cons x L0 ih =>
        obtain ⟨L, rfl, hL⟩ := ih fun p hp => h1 p (by simp [hp])
        obtain ⟨z, hz, ez⟩ := List.mem_map.mp (h1 x (by simp))
        refine ⟨z :: L, by rw [List.map_cons, ez], fun p hp => ?_⟩
        rcases List.mem_cons.mp hp with rfl | hp
        · exact hz
        · exact hL p hp
    obtain ⟨L, rfl, hL⟩ := ex
    obtain ⟨le, st2⟩ := st.newF (u := SetTO X.prog X.w a (L.map fun p => (p.1, [p.2.1, p.2.2]))) ha
    refine h a L _ _ le st2 rfl ?_ (fun c => ⟨fun hc => ?_, fun hc => ?_⟩) hg fun p hp => ?_
    · rw [List.map_map] at nd
      have e9 : (L.map ((·.2) ∘ fun p : Addr × Cel => (p.1, [p.2.1, p.2.2]))) = (L.map (·.2)).map fun c : Cel => [c.1, c.2] := by rw [List.map_map]; rfl
      rw [e9] at nd
      exact List.Pairwise.of_map (fun c : Cel => [c.1, c.2]) (fun a b hne e => hne (by rw [e])) nd
    · obtain ⟨z, hz, rfl⟩ := List.mem_map.mp hc
      exact List.mem_map.mpr ⟨z, hL z hz, rfl⟩
    · obtain ⟨z, hz, rfl⟩ := List.mem_map.mp hc
      have := h2 (z.1, [z.2.1, z.2.2]) (List.mem_map.mpr ⟨z, hz, rfl⟩)
      rw [List.map_map] at this
      obtain ⟨y, hy, ey⟩ := List.mem_map.mp this
      refine List.mem_map.mpr ⟨y, hy, ?_⟩
      have ey : [y.2.1, y.2.2] = [z.2.1, z.2.2] := ey
      injection ey with e1 e2
      injection e2 with e2
      exact Prod.ext e1 e2
    · exact ⟨SqT.mono le (hk p (hL p hp)).1, RepV.mono _ le _ _ (hk p (hL p hp)).2⟩
theorem e_lenSet (hc : X.calm = true) (hu : X.A.units + 64 < cLine) (hg : Gl X "len") (hm : X.mg "len" = none) (hg2 : Gl X "set") (hm2 : X.mg "set" = none) (he : PE X e (TR (gv X ca) W f))
    (hs : starEach [e] X.env = (false, eval e X.env) :: starEach [] X.env := by rfl) (hs2 : starEach [.Call (.Name "set" p2) [e] [] q] X.env = (false, eval (.Call (.Name "set" p2) [e] [] q) X.env) :: starEach [] X.env := by rfl) :
    PE X (.Call (.Name "len" p) [.Call (.Name "set" p2) [e] [] q] [] pos) (T (gv X ca) W (lenSetF f)) :=
  PE.imp (pe_callB cr_lenSt hg hm PySem.boot_len (pa_cons (pe_callTy (cr_setF hc hu) hg2 hm2 PyProof.Rows.boot_set (pa_cons he pa_nil hs) (by decide) (by decide) hs rfl) pa_nil hs2) (by decide) (by decide) hs2 rfl) fun σ H Q ⟨F, Gx, ρ, st, r⟩ => ⟨F, Gx, ρ, st, r.bind.mono fun o H1 F1 ρ1 le r1 v S st1 rv => by
    obtain ⟨o1, e1, q1⟩ := r1.of
    obtain ⟨cs, e2, rfl⟩ := Option.map_eq_some_iff.mp e1
    show rSetF X.K X.prog X.w [v] H1 fun x H2 => rLenSt X.K X.prog X.w [x] H2 Q
    refine set_run st1 rv e2 fun a L L0 F2 le2 st2 eL nd hm hg hk => ?_
    refine ⟨a, L0, rfl, upd_same, fun p hp => ?_, ?_⟩
    · rw [eL] at hp
      obtain ⟨z, hz, rfl⟩ := List.mem_map.mp hp
      exact SqT.mono st2.le (hk z hz).1
    · have el : L0.length = (ddp cs).length := by
        rw [eL, List.length_map]
        have pm : (L.map (·.2)).Perm (ddp cs) := (List.perm_ext_iff_of_nodup nd (ddp_nd cs)).mpr fun c => (hm c).trans (ddp_mem cs c).symm
        have := pm.length_eq
        rwa [List.length_map] at this
      rw [el]
      exact q1 _ _ le2 _ (st2.ofVal repI)⟩
theorem gridP_bd {c : Cel} (h : c ∈ gridP) : 0 ≤ c.1 ∧ c.1 < 5 ∧ 0 ≤ c.2 ∧ c.2 < 5 := by
  unfold gridP at h
  obtain ⟨k, hk, rfl⟩ := List.mem_map.mp h
  have := List.mem_range.mp hk
  simp only
  omega
theorem srtC_of {L : List Cel} {cs : List Cel} (hg : ∀ c ∈ cs, c ∈ gridP) (nd : L.Nodup) (hm : ∀ c, c ∈ L ↔ c ∈ cs) (pw : L.Pairwise fun a b => a.1 * 64 + a.2 ≤ b.1 * 64 + b.2) : L = srtC cs := by
  have gp : gridP.Pairwise fun a b => a.1 * 64 + a.2 < b.1 * 64 + b.2 := by decide +kernel
  have sp : (srtC cs).Pairwise fun a b => a.1 * 64 + a.2 < b.1 * 64 + b.2 := gp.filter _
  have snd : (srtC cs).Nodup := sp.imp fun {a b} h e => by rw [e] at h; omega
  have pm : L.Perm (srtC cs) := (List.perm_ext_iff_of_nodup nd snd).mpr fun c => by
    rw [hm c]
    unfold srtC
    rw [List.mem_filter]
    exact ⟨fun h => ⟨hg c h, decide_eq_true h⟩, fun h => of_decide_eq_true h.2⟩
  refine List.Perm.eq_of_pairwise (fun a b ha hb h1 h2 => ?_) pw (sp.imp fun h => by omega) pm
  have ba := gridP_bd (hg a ((hm a).mp ha))
  have hb' : b ∈ cs := by
    have := (List.mem_filter.mp hb).2
    exact of_decide_eq_true this
  have bb := gridP_bd (hg b hb')
  exact Prod.ext (by omega) (by omega)
theorem pick_of (L : List (Addr × Cel)) : ∀ L0 : List (Addr × List Int), (∀ p ∈ L0, ∃ z ∈ L, p = (z.1, [z.2.1, z.2.2])) → ∃ M : List (Addr × Cel), L0 = M.map (fun p => (p.1, [p.2.1, p.2.2])) ∧ ∀ p ∈ M, p ∈ L
  | [], _ => ⟨[], rfl, by simp⟩
  | x :: L0, h => by
    obtain ⟨M, rfl, hM⟩ := pick_of L L0 fun p hp => h p (by simp [hp])
    obtain ⟨z, hz, ez⟩ := h x (by simp)
    refine ⟨z :: M, by rw [List.map_cons, ez], fun p hp => ?_⟩
    rcases List.mem_cons.mp hp with rfl | hp
    · exact hz
    · exact hM p hp
theorem reps_of {g : Gv} {F : Hp} : ∀ M : List (Addr × Cel), (∀ p ∈ M, RepV g F (celD p.2) (.ref p.1)) → RepVs g F (M.map (celD ∘ (·.2))) (M.map ((fun q : Addr × List Int => V.ref q.1) ∘ fun p => (p.1, [p.2.1, p.2.2])))
  | [], _ => by rw [List.map_nil, List.map_nil, RepVs]
  | p :: M, h => by
    rw [List.map_cons, List.map_cons, RepVs]
    exact ⟨_, _, rfl, h p (by simp), reps_of M fun q hq => h q (by simp [hq])⟩
theorem e_srtSet (hc : X.calm = true) (hu : X.A.units + 64 < cLine) (hg : Gl X "sorted") (hm : X.mg "sorted" = none) (hg2 : Gl X "set") (hm2 : X.mg "set" = none) (he : PE X e (TR (gv X ca) W f))
    (hs : starEach [e] X.env = (false, eval e X.env) :: starEach [] X.env := by rfl) (hs2 : starEach [.Call (.Name "set" p2) [e] [] q] X.env = (false, eval (.Call (.Name "set" p2) [e] [] q) X.env) :: starEach [] X.env := by rfl) :
    PE X (.Call (.Name "sorted" p) [.Call (.Name "set" p2) [e] [] q] [] pos) (T (gv X ca) W (srtSetF f)) :=
  PE.imp (pe_callB (cr_sortedT hc) hg hm boot_sorted (pa_cons (pe_callTy (cr_setF hc hu) hg2 hm2 PyProof.Rows.boot_set (pa_cons he pa_nil hs) (by decide) (by decide) hs rfl) pa_nil hs2) (by decide) (by decide) hs2 rfl) fun σ H Q ⟨F, Gx, ρ, st, r⟩ => ⟨F, Gx, ρ, st, r.bind.mono fun o H1 F1 ρ1 le r1 v S st1 rv => by
    obtain ⟨o1, e1, q1⟩ := r1.of
    obtain ⟨cs, e2, rfl⟩ := Option.map_eq_some_iff.mp e1
    show rSetF X.K X.prog X.w [v] H1 fun x H2 => rSortedT X.K X.prog X.w [x] H2 Q
    refine set_run st1 rv e2 fun a L L0 F2 le2 st2 eL nd hm hg hk => ?_
    have hL0 : ∀ p ∈ L0, ∃ z ∈ L, p = (z.1, [z.2.1, z.2.2]) := fun p hp => by
      rw [eL] at hp
      obtain ⟨z, hz, rfl⟩ := List.mem_map.mp hp
      exact ⟨z, hz, rfl⟩
    refine ⟨a, L0, 2, 64, rfl, upd_same, fun p hp => ?_, by decide, fun p hp => ?_, fun L' p pm nd' _ pw hp => ?_⟩
    · obtain ⟨z, hz, rfl⟩ := hL0 p hp
      exact SqT.mono st2.le (hk z hz).1
    · obtain ⟨z, hz, rfl⟩ := hL0 p hp
      have hb := gridP_bd (hg z.2 ((hm z.2).mp (List.mem_map.mpr ⟨z, hz, rfl⟩)))
      refine ⟨rfl, ?_⟩
      intro m hm'
      have hm' : m = z.2.1 ∨ m = z.2.2 := by simpa using hm'
      rcases hm' with rfl | rfl <;> omega
    · obtain ⟨M, rfl, hM⟩ := pick_of L L' fun p hp => hL0 p (pm.mem_iff.mp hp)
      rw [eL] at pm
      have nd2 : (M.map (·.2)).Nodup := by
        rw [List.map_map] at nd'
        have e9 : (M.map ((·.2) ∘ fun p : Addr × Cel => (p.1, [p.2.1, p.2.2]))) = (M.map (·.2)).map fun c : Cel => [c.1, c.2] := by rw [List.map_map]; rfl
        rw [e9] at nd'
        exact List.Pairwise.of_map (fun c : Cel => [c.1, c.2]) (fun a b hne e => hne (by rw [e])) nd'
      have hm2 : ∀ c, c ∈ M.map (·.2) ↔ c ∈ cs := fun c => by
        rw [← hm c]
        constructor
        · intro h
          obtain ⟨z, hz, rfl⟩ := List.mem_map.mp h
          exact List.mem_map.mpr ⟨z, hM z hz, rfl⟩
        · intro h
          obtain ⟨z, hz, rfl⟩ := List.mem_map.mp h
          have : (z.1, [z.2.1, z.2.2]) ∈ M.map fun p : Addr × Cel => (p.1, [p.2.1, p.2.2]) := pm.mem_iff.mpr (List.mem_map.mpr ⟨z, hz, rfl⟩)
          obtain ⟨y, hy, ey⟩ := List.mem_map.mp this
          have ey : [y.2.1, y.2.2] = [z.2.1, z.2.2] := (Prod.mk.inj ey).2
          injection ey with e1 e2
          injection e2 with e2
          exact List.mem_map.mpr ⟨y, hy, Prod.ext e1 e2⟩
      have pw2 : (M.map (·.2)).Pairwise fun a b => a.1 * 64 + a.2 ≤ b.1 * 64 + b.2 := by
        rw [List.pairwise_map] at pw ⊢
        refine pw.imp fun {a b} h => ?_
        have h : TS.code 64 [a.2.1, a.2.2] ≤ TS.code 64 [b.2.1, b.2.2] := h
        rwa [code_pair, code_pair] at h
      have es := srtC_of hg nd2 hm2 pw2
      have y : Yd (gv X ca) (upd H1 a (SetTO X.prog X.w a L0)) F2 Gx σ ρ1 (.lst (((srtC cs).map celD).map .val)) Q := fun v H' F' le3 st3 => q1 H' F' (le2.trans le3) v st3
      have rr : RepVs (gv X ca) F2 ((srtC cs).map celD) ((M.map fun p => (p.1, [p.2.1, p.2.2])).map fun q => V.ref q.1) := by
        rw [← es, List.map_map, List.map_map]
        exact reps_of M fun p hp => (hk p (hM p hp)).2
      exact Yd.lst y st2 rr p hp⟩
end
end PF

set_option Elab.async false
set_option linter.all false
set_option maxRecDepth 100000
set_option maxHeartbeats 4000000
/-! ### tuple(zip(a, b)), dict(zip(x, y)) -/
namespace PF
open PySem PySem.Spec PyProof.Rows L2
section
variable {Pg : Program} {w : World} {A : Around} {E : Value → Shared → Prop} {s : Shared} {z TI TO i1 i2 T : Addr} {fp1 fp2 : List Addr} {n1 n2 i : Nat} {P1 P2 : Nat → Value → Prop} {St1 St2 : Nat → Heap → Prop} {b : Bool}
/-- a zip whose first pair still lies somewhere -/
structure ZHeld (h : Heap) (z TI TO T : Addr) (b : Bool) : Prop where
  at_ : h.get? z = some { cls := .type "zip", dict := none, data := .fields #[rawInt (T : Nat), .bool b, .bool false, .ref TI, .ref TO], slots := #[] }
  alive : ∃ o, h.get? T = some o
theorem not_free {Q : Bool → Shared → Prop} (hz : ZHeld s.heap z TI TO T b) (Tz : T ≠ z) (q : ∀ h', ZHeld h' z TI TO T true → Heap.SameBut z s.heap h' → Q false { s with heap := h' }) : wpAny (model Pg w) A (Builtin.SmallTypes.ownedTupleIsFree (.ref z)) Q E s := by
  obtain ⟨hp, g, d, tk0, os⟩ := s
  obtain ⟨hz, oT, hT⟩ := hz
  unfold Builtin.SmallTypes.ownedTupleIsFree
  refine wpAny_bind (wpAny_field hz rfl (x := rawInt (T : Nat)) rfl ?_)
  refine wpAny_bind (PySem.W.kdx_alive (s := ⟨hp, g, d, tk0, os⟩) (o := oT) (by rw [show (T : Int).toNat = T from Int.toNat_natCast T]; exact hT) ?_)
  simp only [Option.isNone_some, Bool.false_eq_true, if_false]
  refine wpAny_bind (wpAny_field hz rfl (x := .bool b) rfl ?_)
  cases b with
  | true => exact wpAny_pure (q hp ⟨hz, oT, hT⟩ ⟨rfl, fun _ _ => rfl⟩)
  | false =>
    refine wpAny_bind (m := setField (.ref z) 1 (.bool true)) (wpAny_setField_rec (s := ⟨hp, g, d, tk0, os⟩) hz (by simp) fun h' hz' hs' => ?_)
    exact wpAny_pure (q h' ⟨hz', oT, hs'.extBut _ _ Tz hT⟩ hs')
theorem zheld_item {Q : Value → Shared → Prop} (S : ZipSep2 z TI TO i1 i2 fp1 fp2) (D1 : Draws Pg w A i1 fp1 n1 P1 St1) (D2 : Draws Pg w A i2 fp2 n2 P2 St2) (hz : ZHeld s.heap z TI TO T b) (hTI : IsTupOf2 s.heap TI (.ref i1) (.ref i2))
    (st1 : St1 i s.heap) (st2 : St2 i s.heap) (l1 : i < n1) (l2 : i < n2) (Tz : T ≠ z) (T1 : T ≠ i1) (T2 : T ≠ i2)
    (q : ∀ x1 x2 h' tk, P1 i x1 → P2 i x2 → ZHeld h' z TI TO T true → St1 (i + 1) h' → St2 (i + 1) h' → IsTupOf2 h' s.heap.objs.size x1 x2 → h'.objs.size = s.heap.objs.size + 1 → (∀ c o, c ≠ z → c ≠ i1 → c ≠ i2 → s.heap.get? c = some o → h'.get? c = some o) → Q (.ref s.heap.objs.size) { s with heap := h', toks := tk }) :
    wpAny (model Pg w) A (Builtin.«zip.__next__» ⟨[.ref z], []⟩) (fun fin s' => ∃ v, fin = .done (.ret v) ∧ Q v s') E s := by
  obtain ⟨hp, g, d, tk0, os⟩ := s
  have hz0 := hz.at_
  refine wpAny_bind (m := field (.ref z) 2) (wpAny_field hz0 rfl (x := .bool false) rfl ?_)
  refine wpAny_bind (m := field (.ref z) 3) (wpAny_field hz0 rfl (x := .ref TI) rfl ?_)
  refine wpAny_bind (wpAny_seqItems hTI rfl ?_)
  refine wpAny_bind (m := Builtin.SmallTypes.ownedTupleIsFree (.ref z)) (not_free hz Tz fun h1 z1 k1 => ?_)
  simp only [Bool.false_eq_true, if_false]
  refine wpAny_bind ?_
  rw [← Array.forIn_toList]
  simp only [List.forIn_cons, List.forIn_nil]
  refine wpAny_bind (wpAny_bind (wpAny_holding ?_))
  show wpAny _ _ (Builtin.SmallTypes.nextOf (.ref i1) >>= _) _ _ ⟨h1, g, d, tk0, os⟩
  refine wpAny_bind (D1.item i _ _ _ l1 (D1.over st1 k1 S.zf1) fun x1 p1 tk1 hx1 sn1 kp1 => wpAny_pure (wpAny_pure ?_))
  replace kp1 : Heap.SameBut i1 h1 p1 := kp1
  refine wpAny_bind (wpAny_bind (wpAny_holding ?_))
  show wpAny _ _ (Builtin.SmallTypes.nextOf (.ref i2) >>= _) _ _ ⟨p1, g, d, tk1, os⟩
  refine wpAny_bind (D2.item i _ _ _ l2 (D2.over (D2.over st2 k1 S.zf2) kp1 S.sep1_2) fun x2 p2 tk2 hx2 sn2 kp2 => wpAny_pure (wpAny_pure (wpAny_pure ?_)))
  replace kp2 : Heap.SameBut i2 p1 p2 := kp2
  refine wpAny_bind (m := newTuple [x1, x2]) (wpAny_newTuple ?_)
  have sz : p2.objs.size = hp.objs.size := by rw [kp2.1, kp1.1, k1.1]
  have keep : ∀ c o, c ≠ z → c ≠ i1 → c ≠ i2 → hp.get? c = some o → p2.get? c = some o := fun c o cz c1 c2 e => kp2.extBut _ _ c2 (kp1.extBut _ _ c1 (k1.extBut _ _ cz e))
  have z2 : ZHeld p2 z TI TO T true := by
    obtain ⟨oT, hT⟩ := hz.alive
    exact ⟨kp2.extBut _ _ S.zi2 (kp1.extBut _ _ S.zi1 z1.at_), oT, keep T oT Tz T1 T2 hT⟩
  refine wpAny_pure ⟨_, rfl, ?_⟩
  show Q (.ref p2.objs.size) ⟨p2.push { cls := .type "tuple", data := .seq #[x1, x2] }, g, d, tk2, os⟩
  rw [sz]
  have up : ∀ c o, p2.get? c = some o → (p2.push { cls := .type "tuple", data := .seq #[x1, x2] }).get? c = some o := fun c o e => Heap.get?_push_of_some _ e
  refine q x1 x2 _ tk2 hx1 hx2 ⟨up _ _ z2.at_, let ⟨o, h⟩ := z2.alive; ⟨o, up _ _ h⟩⟩ (D1.frame _ _ _ (D1.over sn1 kp2 S.sep2_1) fun c _ o e => up c o e) (D2.frame _ _ _ sn2 fun c _ o e => up c o e) ?_ ?_ fun c o cz c1 c2 e => up _ _ (keep c o cz c1 c2 e)
  · have := Heap.get?_push_size p2 (o := { cls := .type "tuple", data := .seq #[x1, x2] }) rfl
    rw [sz] at this
    exact this
  · rw [Heap.size_push, sz]
/-- .. at its end -/
theorem zheld_end {Q : PySem.Fin → Shared → Prop} (S : ZipSep2 z TI TO i1 i2 fp1 fp2) (D1 : Draws Pg w A i1 fp1 n1 P1 St1) (D2 : Draws Pg w A i2 fp2 n2 P2 St2) (hz : ZHeld s.heap z TI TO T b) (hTI : IsTupOf2 s.heap TI (.ref i1) (.ref i2))
    (st1 : St1 i s.heap) (st2 : St2 i s.heap) (l1 : i ≤ n1) (l2 : i ≤ n2) (le : i = n1 ∨ i = n2) (Tz : T ≠ z)
    (q : ∀ h' tk e, (∀ c o, c ≠ z → c ≠ i1 → c ≠ i2 → s.heap.get? c = some o → h'.get? c = some o) → (∃ o, h'.get? e = some o ∧ o.cls = .type "StopIteration") → E (.ref e) { s with heap := h', toks := tk }) :
    wpAny (model Pg w) A (Builtin.«zip.__next__» ⟨[.ref z], []⟩) Q E s := by
  obtain ⟨hp, g, d, tk0, os⟩ := s
  have hz0 := hz.at_
  refine wpAny_bind (m := field (.ref z) 2) (wpAny_field hz0 rfl (x := .bool false) rfl ?_)
  refine wpAny_bind (m := field (.ref z) 3) (wpAny_field hz0 rfl (x := .ref TI) rfl ?_)
  refine wpAny_bind (wpAny_seqItems hTI rfl ?_)
  refine wpAny_bind (m := Builtin.SmallTypes.ownedTupleIsFree (.ref z)) (not_free hz Tz fun h1 z1 k1 => ?_)
  simp only [Bool.false_eq_true, if_false]
  refine wpAny_bind ?_
  rw [← Array.forIn_toList]
  simp only [List.forIn_cons, List.forIn_nil]
  refine wpAny_bind (wpAny_bind (wpAny_holding ?_))
  show wpAny _ _ (Builtin.SmallTypes.nextOf (.ref i1) >>= _) _ _ ⟨h1, g, d, tk0, os⟩
  by_cases lt1 : i < n1
  · refine wpAny_bind (D1.item i _ _ _ lt1 (D1.over st1 k1 S.zf1) fun x1 p1 tk1 hx1 sn1 kp1 => wpAny_pure (wpAny_pure ?_))
    replace kp1 : Heap.SameBut i1 h1 p1 := kp1
    have e2 : i = n2 := by omega
    refine wpAny_bind (wpAny_bind (wpAny_holding ?_))
    show wpAny _ _ (Builtin.SmallTypes.nextOf (.ref i2) >>= _) _ _ ⟨p1, g, d, tk1, os⟩
    refine wpAny_bind (D2.done ⟨p1, g, d, tk1, os⟩ _ _ (by rw [← e2]; exact D2.over (D2.over st2 k1 S.zf2) kp1 S.sep1_2) fun h' e hq he => ?_)
    exact q h' tk1 e (fun c o cz c1 c2 x => hq _ _ c2 (kp1.extBut _ _ c1 (k1.extBut _ _ cz x))) he
  · have e1 : i = n1 := by omega
    refine wpAny_bind (D1.done ⟨h1, g, d, tk0, os⟩ _ _ (by rw [← e1]; exact D1.over st1 k1 S.zf1) fun h' e hq he => ?_)
    exact q h' tk0 e (fun c o cz c1 c2 x => hq _ _ c1 (k1.extBut _ _ cz x)) he
theorem zheld_next {Q : Option Value → Shared → Prop} (S : ZipSep2 z TI TO i1 i2 fp1 fp2) (D1 : Draws Pg w A.in1 i1 fp1 n1 P1 St1) (D2 : Draws Pg w A.in1 i2 fp2 n2 P2 St2) (hz : ZHeld s.heap z TI TO T b) (hTI : IsTupOf2 s.heap TI (.ref i1) (.ref i2))
    (st1 : St1 i s.heap) (st2 : St2 i s.heap) (l1 : i < n1) (l2 : i < n2) (Tz : T ≠ z) (T1 : T ≠ i1) (T2 : T ≠ i2)
    (q : ∀ x1 x2 h' tk, P1 i x1 → P2 i x2 → ZHeld h' z TI TO T true → St1 (i + 1) h' → St2 (i + 1) h' → IsTupOf2 h' s.heap.objs.size x1 x2 → h'.objs.size = s.heap.objs.size + 1 → (∀ c o, c ≠ z → c ≠ i1 → c ≠ i2 → s.heap.get? c = some o → h'.get? c = some o) → Q (some (.ref s.heap.objs.size)) { s with heap := h', toks := tk }) :
    wpAny (model Pg w) A (pyNext (.ref z)) Q E s := by
  have ty : s.TypeIs (.ref z) "zip" := ⟨_, hz.at_, rfl⟩
  unfold pyNext
  exact wpAny_bind (wpAny_attempt (wpAny_callSpecial?_slot (name := Str.ofString "__next__") ty F.slot_zip_next (wpAny_call_entry F.slot_zip_next ty F.entry_zip_next
    (zheld_item S D1 D2 hz hTI st1 st2 l1 l2 Tz T1 T2 fun x1 x2 h' tk y1 y2 a b c d e f => wpAny_pure (q x1 x2 h' tk y1 y2 a b c d e f)) (F.args_zip_next_1 _))))
theorem zheld_stop {Q : Option Value → Shared → Prop} (S : ZipSep2 z TI TO i1 i2 fp1 fp2) (D1 : Draws Pg w A.in1 i1 fp1 n1 P1 St1) (D2 : Draws Pg w A.in1 i2 fp2 n2 P2 St2) (hz : ZHeld s.heap z TI TO T b) (hTI : IsTupOf2 s.heap TI (.ref i1) (.ref i2))
    (st1 : St1 i s.heap) (st2 : St2 i s.heap) (l1 : i ≤ n1) (l2 : i ≤ n2) (le : i = n1 ∨ i = n2) (Tz : T ≠ z)
    (q : ∀ h' tk, (∀ c o, c ≠ z → c ≠ i1 → c ≠ i2 → s.heap.get? c = some o → h'.get? c = some o) → Q none { s with heap := h', toks := tk }) :
    wpAny (model Pg w) A (pyNext (.ref z)) Q E s := by
  have ty : s.TypeIs (.ref z) "zip" := ⟨_, hz.at_, rfl⟩
  unfold pyNext
  refine wpAny_bind (wpAny_attempt (wpAny_callSpecial?_slot (name := Str.ofString "__next__") ty F.slot_zip_next (wpAny_call_entry F.slot_zip_next ty F.entry_zip_next
    (zheld_end S D1 D2 hz hTI st1 st2 l1 l2 le Tz fun h' tk e hk he => ?_) (F.args_zip_next_1 _))))
  obtain ⟨o, ho, hc⟩ := he
  exact wpAny_bind (wpAny_isInstance (T := "StopIteration") (b := true) ⟨o, ho, hc⟩ isSubtype_stop (wpAny_pure (q _ _ hk)))
/-- how a zip stands that nobody walks by a for: its pairs are kept -/
structure ZS (z TI TO i1 i2 : Addr) (St1 St2 : Nat → Heap → Prop) (X : Addr) (i : Nat) (h : Heap) : Prop where
  st : IsZip h z TI TO .none ∨ ∃ T b, ZHeld h z TI TO T b ∧ T ≠ z ∧ T ≠ i1 ∧ T ≠ i2 ∧ T ≠ X
  ti : IsTupOf2 h TI (.ref i1) (.ref i2)
  to : ∃ a1 a2, IsTupOf2 h TO a1 a2
  s1 : St1 i h
  s2 : St2 i h
theorem ZS.frame {X : Addr} {h h' : Heap} (S : ZipSep2 z TI TO i1 i2 fp1 fp2) (D1 : Draws Pg w A i1 fp1 n1 P1 St1) (D2 : Draws Pg w A i2 fp2 n2 P2 St2) (x : ZS z TI TO i1 i2 St1 St2 X i h) (Xz : z ≠ X) (XI : TI ≠ X) (XO : TO ≠ X) (X1 : X ∉ fp1) (X2 : X ∉ fp2)
    (k : ∀ c o, c ≠ X → h.get? c = some o → h'.get? c = some o) : ZS z TI TO i1 i2 St1 St2 X i h' where
  st := by
    rcases x.st with y | ⟨T, b, y, a1, a2, a3, a4⟩
    · exact .inl (k _ _ Xz y)
    · obtain ⟨o, ho⟩ := y.alive
      exact .inr ⟨T, b, ⟨k _ _ Xz y.at_, o, k _ _ a4 ho⟩, a1, a2, a3, a4⟩
  ti := k _ _ XI x.ti
  to := let ⟨a1, a2, y⟩ := x.to; ⟨a1, a2, k _ _ XO y⟩
  s1 := D1.frame _ _ _ x.s1 fun c hc o e => k c o (fun q => X1 (q ▸ hc)) e
  s2 := D2.frame _ _ _ x.s2 fun c hc o e => k c o (fun q => X2 (q ▸ hc)) e
theorem zs_next {X : Addr} {Q : Option Value → Shared → Prop} (S : ZipSep2 z TI TO i1 i2 fp1 fp2) (D1 : Draws Pg w A.in1 i1 fp1 n1 P1 St1) (D2 : Draws Pg w A.in1 i2 fp2 n2 P2 St2) (x : ZS z TI TO i1 i2 St1 St2 X i s.heap) (hX : ∃ o, s.heap.get? X = some o) (l1 : i < n1) (l2 : i < n2)
    (q : ∀ x1 x2 h' tk, P1 i x1 → P2 i x2 → ZS z TI TO i1 i2 St1 St2 X (i + 1) h' → IsTupOf2 h' s.heap.objs.size x1 x2 → h'.objs.size = s.heap.objs.size + 1 → (∀ c o, c ≠ z → c ≠ TO → c ≠ i1 → c ≠ i2 → s.heap.get? c = some o → h'.get? c = some o) → Q (some (.ref s.heap.objs.size)) { s with heap := h', toks := tk }) :
    wpAny (model Pg w) A (pyNext (.ref z)) Q E s := by
  obtain ⟨st, ti, ⟨a1, a2, to⟩, s1, s2⟩ := x
  have lt : ∀ {c o}, s.heap.get? c = some o → s.heap.objs.size ≠ c := fun e => Nat.ne_of_gt (Heap.lt_size e)
  obtain ⟨oX, hX⟩ := hX
  rcases st with y | ⟨T, b, y, b1, b2, b3, b4⟩
  · refine wpAny_pyNext_zipD2_item S D1 D2 y ti to s1 s2 l1 l2 fun x1 x2 h' tk p1 p2 c1 c2 d1 d2 c5 c6 k => ?_
    have e1 : s.heap.objs.size ≠ i1 := by obtain ⟨_, e⟩ := D1.live _ _ s1; exact lt e
    have e2 : s.heap.objs.size ≠ i2 := by obtain ⟨_, e⟩ := D2.live _ _ s2; exact lt e
    exact q x1 x2 h' tk p1 p2 ⟨.inr ⟨s.heap.objs.size, false, ⟨c1, _, c5⟩, lt y, e1, e2, lt hX⟩, k _ _ S.TIz S.TITO S.TIi1 S.TIi2 ti, ⟨_, _, c2⟩, d1, d2⟩ c5 c6 k
  · refine zheld_next S D1 D2 y ti s1 s2 l1 l2 b1 b2 b3 fun x1 x2 h' tk p1 p2 c1 d1 d2 c5 c6 k => ?_
    exact q x1 x2 h' tk p1 p2 ⟨.inr ⟨T, true, c1, b1, b2, b3, b4⟩, k _ _ S.TIz S.TIi1 S.TIi2 ti, ⟨a1, a2, k _ _ S.TOz S.Ti1 S.Ti2 to⟩, d1, d2⟩ c5 c6 fun c o e1 _ e3 e4 e => k c o e1 e3 e4 e
theorem zs_stop {X : Addr} {Q : Option Value → Shared → Prop} (S : ZipSep2 z TI TO i1 i2 fp1 fp2) (D1 : Draws Pg w A.in1 i1 fp1 n1 P1 St1) (D2 : Draws Pg w A.in1 i2 fp2 n2 P2 St2) (x : ZS z TI TO i1 i2 St1 St2 X i s.heap) (l1 : i ≤ n1) (l2 : i ≤ n2) (le : i = n1 ∨ i = n2)
    (q : ∀ h' tk, (∀ c o, c ≠ z → c ≠ TO → c ≠ i1 → c ≠ i2 → s.heap.get? c = some o → h'.get? c = some o) → Q none { s with heap := h', toks := tk }) :
    wpAny (model Pg w) A (pyNext (.ref z)) Q E s := by
  obtain ⟨st, ti, ⟨a1, a2, to⟩, s1, s2⟩ := x
  rcases st with y | ⟨T, b, y, b1, b2, b3, b4⟩
  · exact wpAny_pyNext_zipD2_end S D1 D2 y ti to s1 s2 l1 l2 le q
  · exact zheld_stop S D1 D2 y ti s1 s2 l1 l2 le b1 fun h' tk k => q h' tk fun c o e1 _ e3 e4 e => k c o e1 e3 e4 e
/-- what a list has got of a zip's pairs -/
structure Prs (P1 P2 : Nat → Value → Prop) (m0 : Nat) (h : Heap) (i : Nat) (Ts : List Addr) : Prop where
  len : Ts.length = i
  up : Ts.Pairwise (· < ·)
  lo : ∀ T ∈ Ts, m0 ≤ T
  at_ : ∀ j T, Ts[j]? = some T → ∃ x y, IsTupOf2 h T x y ∧ P1 j x ∧ P2 j y
theorem Prs.frame {P1 P2 : Nat → Value → Prop} {m0 i : Nat} {h h' : Heap} {Ts : List Addr} (x : Prs P1 P2 m0 h i Ts) (k : ∀ c o, m0 ≤ c → h.get? c = some o → h'.get? c = some o) : Prs P1 P2 m0 h' i Ts :=
  ⟨x.len, x.up, x.lo, fun j T e => let ⟨a, b, p, q⟩ := x.at_ j T e; ⟨a, b, k _ _ (x.lo T (List.mem_of_getElem? e)) p, q⟩⟩
theorem Prs.push {P1 P2 : Nat → Value → Prop} {m0 i : Nat} {h h' : Heap} {Ts : List Addr} {x y : Value} (z : Prs P1 P2 m0 h i Ts) (zh : ∀ T ∈ Ts, T < h.objs.size) (hm : m0 ≤ h.objs.size) (k : ∀ c o, m0 ≤ c → h.get? c = some o → h'.get? c = some o) (ht : IsTupOf2 h' h.objs.size x y) (p1 : P1 i x) (p2 : P2 i y) :
    Prs P1 P2 m0 h' (i + 1) (Ts ++ [h.objs.size]) where
  len := by rw [List.length_append, z.len]; rfl
  up := by
    rw [List.pairwise_append]
    refine ⟨z.up, List.pairwise_singleton _ _, fun a ha b hb => ?_⟩
    rw [List.mem_singleton.mp hb]
    exact zh a ha
  lo := fun T hT => by
    rcases List.mem_append.mp hT with hT | hT
    · exact z.lo T hT
    · rw [List.mem_singleton.mp hT]; exact hm
  at_ := fun j T e => by
    rw [List.getElem?_append] at e
    split at e
    · obtain ⟨a, b, p, q⟩ := z.at_ j T e
      exact ⟨a, b, k _ _ (z.lo T (List.mem_of_getElem? e)) p, q⟩
    · rename_i hj
      rw [z.len] at hj e
      have : j - i = 0 := by
        rcases Nat.eq_zero_or_pos (j - i) with q | q
        · exact q
        · rw [List.getElem?_eq_none (by rw [List.length_singleton]; exact q)] at e; cases e
      have hji : j = i := by omega
      subst hji
      rw [Nat.sub_self] at e
      cases e
      exact ⟨x, y, ht, p1, p2⟩
theorem ext_zip {X : Addr} {n : Nat} {R : Result → Shared → Prop} {res : Value} {m0 : Nat} {hp : Heap} {s0 : Shared} (S : ZipSep2 z TI TO i1 i2 fp1 fp2) (D1 : Draws Pg w A.in1.in1 i1 fp1 n1 P1 St1) (D2 : Draws Pg w A.in1.in1 i2 fp2 n2 P2 St2) (en : n = min n1 n2) (hn : n ≤ sizeLine)
    (Xz : z ≠ X) (XI : TI ≠ X) (XO : TO ≠ X) (X1 : X ∉ fp1) (X2 : X ∉ fp2) (lz : z < m0) (lO : TO < m0) (l1 : i1 < m0) (l2 : i2 < m0) (lX : X < m0)
    (fz : hp.get? z = none) (fO : hp.get? TO = none) (f1 : hp.get? i1 = none) (f2 : hp.get? i2 = none) (fX : hp.get? X = none) (k : Nat) :
    ∀ (i : Nat) (s : Shared) (acc : Array Value) (c : Nat) (Ts : List Addr), n - i = k → i ≤ n → s = { s0 with heap := s.heap, toks := s.toks } → ZS z TI TO i1 i2 St1 St2 X i s.heap → s.heap.get? X = some { cls := .type "list", dict := none, data := .seq acc c, slots := #[] } →
      acc.toList = Ts.map Value.ref → Prs P1 P2 m0 s.heap i Ts → (∀ T ∈ Ts, T < s.heap.objs.size) → m0 ≤ s.heap.objs.size → (∀ b o, hp.get? b = some o → s.heap.get? b = some o) →
      (∀ h' tk acc' c' Ts', h'.get? X = some { cls := .type "list", dict := none, data := .seq acc' c', slots := #[] } → acc'.toList = Ts'.map Value.ref → Prs P1 P2 m0 h' n Ts' → (∀ b o, hp.get? b = some o → h'.get? b = some o) → R (.ok (.ret res)) { s0 with heap := h', toks := tk }) →
      codeAny (model Pg w) A (.builtin "list.extend.loop" ⟨[.ref X, .ref z, res], []⟩) R s := by
  have nez : ∀ c, m0 ≤ c → c ≠ z ∧ c ≠ TO ∧ c ≠ i1 ∧ c ≠ i2 ∧ c ≠ X := fun c hc => ⟨Nat.ne_of_gt (Nat.lt_of_lt_of_le lz hc), Nat.ne_of_gt (Nat.lt_of_lt_of_le lO hc), Nat.ne_of_gt (Nat.lt_of_lt_of_le l1 hc), Nat.ne_of_gt (Nat.lt_of_lt_of_le l2 hc), Nat.ne_of_gt (Nat.lt_of_lt_of_le lX hc)⟩
  have neh : ∀ c o, hp.get? c = some o → c ≠ z ∧ c ≠ TO ∧ c ≠ i1 ∧ c ≠ i2 ∧ c ≠ X := fun c o e => ⟨fun q => (by rw [q, fz] at e; cases e), fun q => (by rw [q, fO] at e; cases e), fun q => (by rw [q, f1] at e; cases e), fun q => (by rw [q, f2] at e; cases e), fun q => (by rw [q, fX] at e; cases e)⟩
  have X1' : X ≠ i1 := fun q => X1 (q ▸ S.mem1)
  have X2' : X ≠ i2 := fun q => X2 (q ▸ S.mem2)
  induction k with
  | zero =>
    intro i s acc c Ts ek hi es hz hX hacc hp1 hth hm keep fin
    obtain rfl : i = n := by omega
    refine codeAny_builtin F.entry_extend_loop ?_
    rw [Around.under_plainId F.plain_extend_loop _]
    refine wpAny_bind (m := pyNext (.ref z)) (zs_stop S D1 D2 hz (by omega) (by omega) (by omega) fun h' tk kp => wpAny_pure ?_)
    have e2 : ({ s with heap := h', toks := tk } : Shared) = { s0 with heap := h', toks := tk } := by rw [es]
    rw [e2]
    refine fin h' tk acc c Ts (kp X _ Xz.symm XO.symm X1' X2' hX) hacc (hp1.frame fun c o hc e => kp c o (nez c hc).1 (nez c hc).2.1 (nez c hc).2.2.1 (nez c hc).2.2.2.1 e) fun b o e => kp b o (neh b o e).1 (neh b o e).2.1 (neh b o e).2.2.1 (neh b o e).2.2.2.1 (keep b o e)
  | succ k ih =>
    intro i s acc c Ts ek hi es hz hX hacc hp1 hth hm keep fin
    have hlt : i < n := by omega
    have asz : acc.size = i := by
      have := congrArg List.length hacc
      rw [List.length_map, hp1.len] at this
      simpa using this
    refine codeAny_builtin F.entry_extend_loop ?_
    rw [Around.under_plainId F.plain_extend_loop _]
    refine wpAny_bind (m := pyNext (.ref z)) (zs_next S D1 D2 hz ⟨_, hX⟩ (by omega) (by omega) fun x1 x2 h' tk p1 p2 hz' ht hsz kp => ?_)
    have hX' := kp X _ Xz.symm XO.symm X1' X2' hX
    refine wpAny_bind (m := updateSeq X (·.push (.ref s.heap.objs.size))) ?_
    refine wpAny_updateSeq hX' rfl (wpAny_pure ⟨plainId_quiet F.plain_extend_loop _, ?_⟩) (by rw [asz]; omega) (by show (acc.push _).size ≤ sizeLine + 1; rw [Array.size_push, asz]; omega)
    have sb : ∀ c o, c ≠ X → h'.get? c = some o → (h'.update X (Obj.mapSeq (·.push (.ref s.heap.objs.size)))).get? c = some o := fun c o hc e => (Heap.get?_update_other _ _ (Ne.symm hc)).trans e
    have usz : (h'.update X (Obj.mapSeq (·.push (.ref s.heap.objs.size)))).objs.size = s.heap.objs.size + 1 := by rw [Heap.size_update, hsz]
    refine ih (i + 1) _ (acc.push (.ref s.heap.objs.size)) _ (Ts ++ [s.heap.objs.size]) (by omega) hlt (by rw [es]) (hz'.frame S D1 D2 Xz XI XO X1 X2 sb) (Heap.get?_update_self _ hX' rfl) ?_ ?_ ?_ ?_ ?_ fin
    · rw [Array.toList_push, hacc, List.map_append]; rfl
    · refine hp1.push hth hm (fun c o hc e => ?_) ?_ p1 p2
      · exact sb c o (nez c hc).2.2.2.2 (kp c o (nez c hc).1 (nez c hc).2.1 (nez c hc).2.2.1 (nez c hc).2.2.2.1 e)
      · exact sb _ _ (nez _ hm).2.2.2.2 ht
    · intro T hT
      show T < (h'.update X _).objs.size
      rw [usz]
      rcases List.mem_append.mp hT with hT | hT
      · exact Nat.lt_succ_of_lt (hth T hT)
      · rw [List.mem_singleton.mp hT]; exact Nat.lt_succ_self _
    · show m0 ≤ (h'.update X _).objs.size
      rw [usz]
      exact Nat.le_succ_of_le hm
    · exact fun b o e => sb b o (neh b o e).2.2.2.2 (kp b o (neh b o e).1 (neh b o e).2.1 (neh b o e).2.2.1 (neh b o e).2.2.2.1 (keep b o e))
theorem zip_no_len : typeLookup (.type "zip") "__len__" = pure none := by rw [typeLookup_type, builtinLookup_eq_fast]; kernel_rfl
theorem zip_no_hint : typeLookup (.type "zip") "__length_hint__" = pure none := by rw [typeLookup_type, builtinLookup_eq_fast]; kernel_rfl
theorem collect_zip {n : Nat} {Q : List Value → Shared → Prop} {hp : Heap} (S : ZipSep2 z TI TO i1 i2 fp1 fp2) (D1 : Draws Pg w A.in1.in1 i1 fp1 n1 P1 St1) (D2 : Draws Pg w A.in1.in1 i2 fp2 n2 P2 St2) (en : n = min n1 n2) (hn : n ≤ sizeLine)
    (hz : IsZip s.heap z TI TO .none) (hti : IsTupOf2 s.heap TI (.ref i1) (.ref i2)) (hto : ∃ a b, IsTupOf2 s.heap TO a b) (s1 : St1 0 s.heap) (s2 : St2 0 s.heap) (a1 : ∀ c ∈ fp1, c < s.heap.objs.size) (a2 : ∀ c ∈ fp2, c < s.heap.objs.size)
    (fz : hp.get? z = none) (fO : hp.get? TO = none) (f1 : hp.get? i1 = none) (f2 : hp.get? i2 = none) (fs : ∀ c, s.heap.objs.size ≤ c → hp.get? c = none) (keep : ∀ b o, hp.get? b = some o → s.heap.get? b = some o)
    (q : ∀ h' tk Ts, Prs P1 P2 s.heap.objs.size h' n Ts → (∀ b o, hp.get? b = some o → h'.get? b = some o) → Q (Ts.map Value.ref) { s with heap := h', toks := tk }) :
    wpAny (model Pg w) A (collect (.ref z)) Q E s := by
  have lt : ∀ {c o}, s.heap.get? c = some o → c < s.heap.objs.size := fun e => Heap.lt_size e
  have ne : ∀ {c o}, s.heap.get? c = some o → c ≠ s.heap.objs.size := fun e => Nat.ne_of_lt (Heap.lt_size e)
  obtain ⟨t1, t2, hto⟩ := hto
  unfold collect
  refine wpAny_bind (wpAny_runValue (codeAny_builtin F.entry_proto_collect ?_))
  rw [Around.under_plainId F.plain_proto_collect _]
  refine wpAny_bind (m := newList []) (wpAny_newObj_type ?_)
  refine wpAny_pure ⟨plainId_quiet F.plain_list_iadd _, codeAny_builtin F.entry_list_iadd ?_⟩
  rw [Around.under_plainId F.plain_list_iadd _]
  have L0 : (s.heap.push { cls := .type "list", data := .seq ([] : List Value).toArray }).get? s.heap.objs.size = some { cls := .type "list", data := .seq ([] : List Value).toArray } := Heap.get?_push_size _ rfl
  have p0 : ∀ c o, s.heap.get? c = some o → (s.heap.push { cls := .type "list", data := .seq ([] : List Value).toArray }).get? c = some o := fun c o e => Heap.get?_push_of_some _ e
  have ty : ({ s with heap := s.heap.push { cls := .type "list", data := .seq ([] : List Value).toArray } } : Shared).TypeIs (.ref z) "zip" := ⟨_, p0 _ _ hz, rfl⟩
  have e1 : Builtin.List.listSameRef (.ref s.heap.objs.size) (.ref z) = false := by
    have := (ne hz).symm
    simp [Builtin.List.listSameRef, this]
  show wpAny _ A.in1 (Builtin.List.listExtendWith (.ref s.heap.objs.size) (.ref z) (.ref s.heap.objs.size)) _ _ _
  unfold Builtin.List.listExtendWith
  refine wpAny_bind (wpAny_typeOf ty ?_)
  rw [if_neg (by rw [e1]; decide)]
  refine wpAny_bind (wpAny_pyIter_zip (s := { s with heap := s.heap.push { cls := .type "list", data := .seq ([] : List Value).toArray } }) (p0 _ _ hz) ?_)
  refine wpAny_bind (wpAny_holding ?_)
  unfold Builtin.List.listLengthHint
  refine wpAny_bind (wpAny_specialOf ty zip_no_len ?_)
  refine wpAny_bind (m := specialOf (.ref z) (Str.ofString "__length_hint__")) (wpAny_specialOf ty zip_no_hint ?_)
  refine wpAny_pure ?_
  refine wpAny_bind (m := rule "list.extend.makes-room") (wpAny_rule ?_)
  refine wpAny_bind (m := Builtin.List.listTouch (.ref s.heap.objs.size)) ?_
  refine wpAny_bind (m := updateSeq s.heap.objs.size (·.push .none)) (wpAny_updateSeq L0 rfl ?_)
  have L1 := Heap.get?_update_self (Obj.mapSeq (·.push Value.none)) L0 rfl
  refine wpAny_updateSeq L1 rfl ?_
  have L2 := Heap.get?_update_self (Obj.mapSeq (·.pop)) L1 rfl
  have oth : ∀ c o, c ≠ s.heap.objs.size → s.heap.get? c = some o → (((s.heap.push { cls := .type "list", data := .seq ([] : List Value).toArray }).update s.heap.objs.size (Obj.mapSeq (·.push Value.none))).update s.heap.objs.size (Obj.mapSeq (·.pop))).get? c = some o :=
    fun c o hc e => (Heap.get?_update_other _ _ (Ne.symm hc)).trans ((Heap.get?_update_other _ _ (Ne.symm hc)).trans (p0 c o e))
  have up : ∀ c o, s.heap.get? c = some o → (((s.heap.push { cls := .type "list", data := .seq ([] : List Value).toArray }).update s.heap.objs.size (Obj.mapSeq (·.push Value.none))).update s.heap.objs.size (Obj.mapSeq (·.pop))).get? c = some o := fun c o e => oth c o (ne e) e
  have usz : (((s.heap.push { cls := .type "list", data := .seq ([] : List Value).toArray }).update s.heap.objs.size (Obj.mapSeq (·.push Value.none))).update s.heap.objs.size (Obj.mapSeq (·.pop))).objs.size = s.heap.objs.size + 1 := by rw [Heap.size_update, Heap.size_update, Heap.size_push]
  obtain ⟨_, v1⟩ := D1.live _ _ s1
  obtain ⟨_, v2⟩ := D2.live _ _ s2
  have sl : ∀ {c : Addr}, c < s.heap.objs.size → c < s.heap.objs.size + 1 := fun h => Nat.lt_succ_of_lt h
  refine wpAny_pure ⟨plainId_quiet F.plain_extend_loop _, ext_zip (m0 := s.heap.objs.size + 1) (s0 := s) (hp := hp) S D1 D2 en hn (ne hz) (ne hti) (ne hto) (fun h => Nat.lt_irrefl _ (a1 _ h)) (fun h => Nat.lt_irrefl _ (a2 _ h)) (sl (lt hz)) (sl (lt hto)) (sl (lt v1)) (sl (lt v2)) (Nat.lt_succ_self _)
    fz fO f1 f2 (fs _ (Nat.le_refl _)) n 0 _ #[] _ [] (by omega) (Nat.zero_le _) rfl ⟨.inl (up _ _ hz), up _ _ hti, ⟨t1, t2, up _ _ hto⟩, D1.frame _ _ _ s1 fun c _ o e => up c o e, D2.frame _ _ _ s2 fun c _ o e => up c o e⟩ L2 rfl
    ⟨rfl, List.Pairwise.nil, fun T h => (by cases h), fun j T e => (by simp at e)⟩ (fun T h => (by cases h)) (Nat.le_of_eq usz.symm) (fun b o e => up b o (keep b o e)) fun h' tk acc c Ts hX hacc hp1 kp => ?_⟩
  refine wpAny_bind (m := load s.heap.objs.size) (wpAny_load hX (wpAny_pure ?_))
  rw [show acc.toList = Ts.map Value.ref from hacc]
  exact q h' tk Ts ⟨hp1.len, hp1.up, fun T h => Nat.le_of_succ_le (hp1.lo T h), hp1.at_⟩ kp
open RT in
theorem tuple_zip {n : Nat} {Q : Value → Shared → Prop} {hp : Heap} (S : ZipSep2 z TI TO i1 i2 fp1 fp2) (D1 : Draws Pg w A.in1.in1.in1.in1 i1 fp1 n1 P1 St1) (D2 : Draws Pg w A.in1.in1.in1.in1 i2 fp2 n2 P2 St2) (en : n = min n1 n2) (hn : n ≤ sizeLine)
    (hz : IsZip s.heap z TI TO .none) (hti : IsTupOf2 s.heap TI (.ref i1) (.ref i2)) (hto : ∃ a b, IsTupOf2 s.heap TO a b) (s1 : St1 0 s.heap) (s2 : St2 0 s.heap) (a1 : ∀ c ∈ fp1, c < s.heap.objs.size) (a2 : ∀ c ∈ fp2, c < s.heap.objs.size)
    (fz : hp.get? z = none) (fO : hp.get? TO = none) (f1 : hp.get? i1 = none) (f2 : hp.get? i2 = none) (fs : ∀ c, s.heap.objs.size ≤ c → hp.get? c = none) (keep : ∀ b o, hp.get? b = some o → s.heap.get? b = some o)
    (q : ∀ h' tk Ts, Prs P1 P2 s.heap.objs.size h' n Ts → (∀ b o, hp.get? b = some o → h'.get? b = some o) → Q (.ref h'.objs.size) { s with heap := h'.push { cls := .type "tuple", data := .seq (Ts.map Value.ref).toArray }, toks := tk }) :
    wpAny (model Pg w) A (call (.type "tuple") [.ref z]) Q E s := by
  have ty : s.TypeIs (.ref z) "zip" := ⟨_, hz, rfl⟩
  refine callType_codes (Q₁ := fun ob s' => s'.TypeIs ob "tuple" ∧ Q ob s') F.called_tuple (F.typeCall_tuple_1 _) F.entry_object_init ?_ fun ob s' h => ?_
  · refine codeAny_of_tree ?_
    show wpAny _ A.in1.in1 (do checkBuiltinCall "tuple.__new__" ⟨[.type "tuple", .ref z], []⟩; again (.builtin "tuple.__new__" ⟨[.type "tuple", .ref z], []⟩)) _ _ s
    refine wpAny_bind (wpAny_of_eq (F.newCall_tuple_1 _) (wpAny_pure ⟨plainId_quiet F.plain_tuple_new _, codeAny_builtin F.entry_tuple_new ?_⟩))
    rw [Around.under_plainId F.plain_tuple_new _]
    have b1 := sub_tuple_self
    have b2 := init_tuple_lookup
    have b3 := madeHere_tuple
    have cz : ∀ (Q' : List Value → Shared → Prop) (E' : Value → Shared → Prop), (∀ h' tk Ts, Prs P1 P2 s.heap.objs.size h' n Ts → (∀ b o, hp.get? b = some o → h'.get? b = some o) → Q' (Ts.map Value.ref) { s with heap := h', toks := tk }) → wpAny (model Pg w) A.in1.in1 (collect (.ref z)) Q' E' s := fun Q' E' hq =>
      collect_zip (A := A.in1.in1) S D1 D2 en hn hz hti hto s1 s2 a1 a2 fz fO f1 f2 fs keep hq
    wp_walk using wpAny_typeOf ty, cz _ _
    intro h' tk Ts hp1 kp
    show wpAny _ _ (Builtin.Tuple.tupleExact (Ts.map Value.ref).toArray >>= fun v => ret v) _ _ _
    unfold Builtin.Tuple.tupleExact
    refine wpAny_bind (wpAny_newObj_type ?_ (by show (Ts.map Value.ref).toArray.size ≤ sizeLine; rw [List.size_toArray, List.length_map, hp1.len]; exact hn))
    refine wpAny_pure ?_
    exact ⟨⟨_, Heap.get?_push_size _ rfl, rfl⟩, q h' tk Ts hp1 kp⟩
  · exact ⟨h.1, F.args_object_init_2 ob _, object_init_meets F.called_tuple.init.lookup F.called_tuple.made (by decide) Pg w A.in1 _ s' ⟨h.1, rfl, h.2⟩⟩
end
end PF

set_option Elab.async false
set_option linter.all false
set_option maxRecDepth 100000
set_option maxHeartbeats 4000000
/-! ### tuple(zip(a, b)) over the slots -/
namespace PF
open PySem PySem.Spec PyProof.Rows L2
section
open Sem (wp)
theorem zip_make {v1 v2 : Value} {c1 c2 : Obj} {Th1 Th2 : Heap → Prop} (B1 : Begins v1 c1 Th1) (B2 : Begins v2 c2 Th2) :
    Meets (Builtin.«zip.__new__» ⟨[.type "zip", v1, v2], []⟩) (fun _ R s => Th1 s.heap ∧ Th2 s.heap ∧
      R (.ok (.ret (.ref ((((s.heap.push c1).push c2).push { cls := .type "tuple", data := .seq #[.ref s.heap.objs.size, .ref (s.heap.push c1).objs.size] }).push { cls := .type "tuple", data := .seq #[.none, .none] }).objs.size)))
        { s with heap := ((((s.heap.push c1).push c2).push { cls := .type "tuple", data := .seq #[.ref s.heap.objs.size, .ref (s.heap.push c1).objs.size] }).push { cls := .type "tuple", data := .seq #[.none, .none] }).push { cls := .type "zip", data := .fields #[.none, .bool false, .bool false, .ref ((s.heap.push c1).push c2).objs.size, .ref (((s.heap.push c1).push c2).push { cls := .type "tuple", data := .seq #[.ref s.heap.objs.size, .ref (s.heap.push c1).objs.size] }).objs.size] } }) :=
  .of_wp fun P0 W0 A0 R0 st0 hyp => by
    obtain ⟨hp, gn, dr, tk, oo⟩ := st0
    obtain ⟨t1, t2, hyp⟩ := hyp
    have hsub := sub_zip
    have i1 : ∀ {A' : Around} {E' : Value → Shared → Prop} {Q' : Value → Shared → Prop}, Q' (.ref hp.objs.size) ⟨hp.push c1, gn, dr, tk, oo⟩ → wpAny (model P0 W0) A' (pyIter v1) Q' E' ⟨hp, gn, dr, tk, oo⟩ := fun z => B1.iter P0 W0 _ _ ⟨hp, gn, dr, tk, oo⟩ _ t1 z
    have i2 : ∀ {A' : Around} {E' : Value → Shared → Prop} {Q' : Value → Shared → Prop}, Q' (.ref (hp.push c1).objs.size) ⟨(hp.push c1).push c2, gn, dr, tk, oo⟩ → wpAny (model P0 W0) A' (pyIter v2) Q' E' ⟨hp.push c1, gn, dr, tk, oo⟩ :=
      fun z => B2.iter P0 W0 _ _ ⟨hp.push c1, gn, dr, tk, oo⟩ _ (B2.keeps _ _ t2 fun b o e => Heap.get?_push_of_some _ e) z
    wp_walk using i1, i2
    exact ⟨_, rfl, hyp⟩
end
section
variable {Pg : Program} {w : World} {A : Around} {E : Value → Shared → Prop} {s : Shared}
theorem zip_call {v1 v2 : Value} {c1 c2 : Obj} {Th1 Th2 : Heap → Prop} {Q : Value → Shared → Prop} (B1 : Begins v1 c1 Th1) (B2 : Begins v2 c2 Th2) (t1 : Th1 s.heap) (t2 : Th2 s.heap)
    (q : ∀ h', IsZip h' (s.heap.objs.size + 4) (s.heap.objs.size + 2) (s.heap.objs.size + 3) .none → IsTupOf2 h' (s.heap.objs.size + 2) (.ref s.heap.objs.size) (.ref (s.heap.objs.size + 1)) → IsTupOf2 h' (s.heap.objs.size + 3) .none .none →
      h'.get? s.heap.objs.size = some c1 → h'.get? (s.heap.objs.size + 1) = some c2 → h'.objs.size = s.heap.objs.size + 5 → (∀ b o, s.heap.get? b = some o → h'.get? b = some o) → Q (.ref (s.heap.objs.size + 4)) { s with heap := h' }) :
    wpAny (model Pg w) A (call (.type "zip") [v1, v2]) Q E s := by
  refine callType_new F.called_zip (by decide) (F.typeCall_zip_2 _ _) (F.newCall_zip_2 _ _) (fun ob => F.args_object_init_3 ob _ _) F.entry_zip_new (zip_make B1 B2) ⟨t1, t2, ?_⟩
  obtain ⟨hp, gn, dr, tk, oo⟩ := s
  have z1 : (hp.push c1).objs.size = hp.objs.size + 1 := Heap.size_push ..
  have z2 : ((hp.push c1).push c2).objs.size = hp.objs.size + 2 := by rw [Heap.size_push, z1]
  generalize e3 : ((hp.push c1).push c2).push { cls := .type "tuple", data := .seq #[.ref hp.objs.size, .ref (hp.push c1).objs.size] } = h3
  have z3 : h3.objs.size = hp.objs.size + 3 := by rw [← e3, Heap.size_push, z2]
  generalize e4 : h3.push { cls := .type "tuple", data := .seq #[.none, .none] } = h4
  have z4 : h4.objs.size = hp.objs.size + 4 := by rw [← e4, Heap.size_push, z3]
  generalize e5 : h4.push { cls := .type "zip", data := .fields #[.none, .bool false, .bool false, .ref ((hp.push c1).push c2).objs.size, .ref h3.objs.size] } = h5
  have z5 : h5.objs.size = hp.objs.size + 5 := by rw [← e5, Heap.size_push, z4]
  have k5 : ∀ b o, h4.get? b = some o → h5.get? b = some o := fun b o e => by rw [← e5]; exact Heap.get?_push_of_some _ e
  have k4 : ∀ b o, h3.get? b = some o → h4.get? b = some o := fun b o e => by rw [← e4]; exact Heap.get?_push_of_some _ e
  have k3 : ∀ b o, ((hp.push c1).push c2).get? b = some o → h3.get? b = some o := fun b o e => by rw [← e3]; exact Heap.get?_push_of_some _ e
  have g5 : h5.get? (hp.objs.size + 4) = some { cls := .type "zip", dict := none, data := .fields #[.none, .bool false, .bool false, .ref (hp.objs.size + 2), .ref (hp.objs.size + 3)], slots := #[] } := by
    rw [← z4, ← e5, z2, z3]; exact Heap.get?_push_size _ rfl
  have g4 : h4.get? (hp.objs.size + 3) = some { cls := .type "tuple", data := .seq #[.none, .none] } := by
    rw [← z3, ← e4]; exact Heap.get?_push_size _ rfl
  have g3 : h3.get? (hp.objs.size + 2) = some { cls := .type "tuple", data := .seq #[.ref hp.objs.size, .ref (hp.objs.size + 1)] } := by
    rw [← z2, ← e3, z1]; exact Heap.get?_push_size _ rfl
  have g2 : ((hp.push c1).push c2).get? (hp.objs.size + 1) = some c2 := by rw [← z1]; exact Heap.get?_push_size _ B2.free
  have g1 : ((hp.push c1).push c2).get? hp.objs.size = some c1 := Heap.get?_push_of_some _ (Heap.get?_push_size _ B1.free)
  show _ ∧ _
  simp only [e3, e4, e5, z4]
  refine ⟨⟨_, g5, rfl⟩, q h5 g5 (k5 _ _ (k4 _ _ g3)) (k5 _ _ g4) (k5 _ _ (k4 _ _ (k3 _ _ g1))) (k5 _ _ (k4 _ _ (k3 _ _ g2))) z5 fun b o e => k5 _ _ (k4 _ _ (k3 _ _ (Heap.get?_push_of_some _ (Heap.get?_push_of_some _ e))))⟩
end
/-- new pairs laid at Ts -/
def zipH : Hp → List Addr → List (V × V) → Hp
  | H, T :: Ts, p :: ps => zipH (upd H T (.tup [p.1, p.2])) Ts ps
  | H, _, _ => H
theorem zipH_out : ∀ (Ts : List Addr) (ps : List (V × V)) (H : Hp) (c : Addr), c ∉ Ts → zipH H Ts ps c = H c
  | [], ps, H, c, _ => by rw [zipH]; intro T Ts p ps h; cases h
  | T :: Ts, [], H, c, _ => by rw [zipH]; intro T Ts p ps _ h; cases h
  | T :: Ts, p :: ps, H, c, h => by
    rw [zipH, zipH_out Ts ps _ c fun z => h (List.mem_cons_of_mem _ z), upd_ne fun z => h (by rw [z]; exact List.mem_cons_self)]
theorem un_ext {fs ex : List Addr} {H H' : Hp} {h h' : Heap} (k : ∀ b o, h.get? b = some o → h'.get? b = some o) (f : ∀ c o, h.get? c = some o → H c = none → H' c = none) (g : ∀ c o, H c = some o → H' c = some o) : Un fs ex H H' h h' :=
  ⟨fun b o e _ _ _ => k b o e, fun b o e _ _ _ => ⟨o.slots, k b o e⟩, fun b o e n _ => f b o e n, fun b o e _ => ⟨o, k b o e⟩, fun b xs e => g _ _ e, fun b o u e => g _ _ e, fun b ps e => ⟨#[], by rw [g _ _ e]; simp⟩⟩
theorem hok_new {Pg : Program} {w : World} {H : Hp} {h : Heap} {a : Addr} {o : HO} (x : HOk Pg w H h) (hn : H a = none) (nw : ObjOk Pg w (upd H a o) h a o) : HOk Pg w (upd H a o) h := fun b u e => by
  by_cases hb : b = a
  · subst hb
    rw [upd_same] at e
    cases e
    exact nw
  · have e' : H b = some u := by rwa [upd_ne hb] at e
    exact (x b u e').stay (fun _ _ _ z => z) (fun c z => by rw [upd_ne (ne_of_none z hn)]; exact z) fun c xs z => by rw [upd_ne (ne_of_none z hn)]; exact z
theorem hok_zip {Pg : Program} {w : World} {h : Heap} : ∀ (Ts : List Addr) (ps : List (V × V)) (H : Hp), Ts.length = ps.length → Ts.Nodup → (∀ T ∈ Ts, H T = none) → (∀ (j : Nat) (T : Addr) (p : V × V), Ts[j]? = some T → ps[j]? = some p → ∃ u v, RelV p.1 u ∧ RelV p.2 v ∧ IsTupOf2 h T u v) → HOk Pg w H h → HOk Pg w (zipH H Ts ps) h
  | [], ps, H, _, _, _, _, x => by rw [show zipH H [] ps = H by rw [zipH]; intro T Ts p ps h; cases h]; exact x
  | T :: Ts, [], H, hl, _, _, _, _ => by cases hl
  | T :: Ts, p :: ps, H, hl, nd, hn, ha, x => by
    rw [zipH]
    have nd := List.nodup_cons.mp nd
    refine hok_zip Ts ps _ (by simpa using hl) nd.2 (fun T' hT' => ?_) (fun j T' p' e1 e2 => ha (j + 1) T' p' (by simpa using e1) (by simpa using e2)) ?_
    · rw [upd_ne fun z => nd.1 (by rw [← z]; exact hT')]
      exact hn T' (List.mem_cons_of_mem _ hT')
    · obtain ⟨u, v, r1, r2, q⟩ := ha 0 T p rfl rfl
      refine hok_new x (hn T List.mem_cons_self) ?_
      exact ⟨by show 2 ≤ sizeLine; decide, [u, v], .cons r1 (.cons r2 .nil), ⟨_, q, rfl, _, rfl⟩⟩
theorem vals_refs : ∀ Ts : List Addr, Vals (Ts.map V.ref) (Ts.map Value.ref)
  | [] => .nil
  | T :: Ts => .cons rfl (vals_refs Ts)
section
variable {X : Cx}
def tTupZip (K : PySem.W.Frag) (ta : TA) : TE := fun σ H Q => ta σ H fun vs H1 => ∃ (a b : Addr) (xs ys : List V), vs = [V.ref a, V.ref b] ∧ SqT K H1 a xs ∧ SqL K H1 b ys ∧
  ∀ (Ts : List Addr) (p : Addr), Ts.length = min xs.length ys.length → Ts.Nodup → (∀ T ∈ Ts, H1 T = none) → H1 p = none → p ∉ Ts → Q (.ref p) (upd (zipH H1 Ts (xs.zip ys)) p (.tup (Ts.map V.ref)))
theorem pe_tupZip {e e2 : Expr} {ta : TA} {p p2 q pos : Pos} (hc : X.calm = true) (hg : Gl X "tuple") (hm : X.mg "tuple" = none) (hg2 : Gl X "zip") (hm2 : X.mg "zip" = none) (ha : PA X [e, e2] ta)
    (hs : starEach [e, e2] X.env = (false, eval e X.env) :: starEach [e2] X.env := by rfl) (hpl : (backTo q (starEach [e2] X.env)).any (·.1) = false := by rfl) :
    PE X (.Call (.Name "tuple" p) [.Call (.Name "zip" p2) [e, e2] [] q] [] pos) (tTupZip X.K ta) := by
  refine ⟨fun pins s σ H Q I h => ?_⟩
  refine Call_ (ld_blt I hg hm PyProof.Rows.boot_tuple ?_)
  refine PyProof.Rows.callWith_type1 (PyProof.Rows.args_cons ?_ rfl) rfl rfl
  refine Call_ (ld_blt I hg2 hm2 PyProof.Rows.boot_zip ?_)
  refine PyProof.Rows.callWith_type1 (thn (ha.run q pins s σ H _ I h) fun us s1 ⟨vs, H1, I1, r1, q1⟩ => ?_) hs hpl
  obtain ⟨a, b, xs, ys, rfl, hx, hy, q1⟩ := q1
  cases r1 with
  | cons r rr =>
    cases rr with
    | cons r' rr =>
      cases rr
      cases r
      cases r'
      obtain ⟨its, rv, p1, hz1⟩ := I1.tuple hx
      obtain ⟨its2, rv2, p3, hz2⟩ := I1.list hy
      refine zip_call (begins_tuple a its.toArray) (begins_list b its2.toArray) p1 p3.isList fun h1 z1 z2 z3 z4 z5 z6 k1 => ?_
      refine PyProof.Rows.args_nil ?_
      have hh : X.A.handled = none := I1.ok.hd hc
      have la : a < s1.heap.objs.size := by obtain ⟨o, ho, _⟩ := p1; exact Heap.lt_size ho
      have lb : b < s1.heap.objs.size := by obtain ⟨o, ho, _⟩ := p3.isList; exact Heap.lt_size ho
      obtain ⟨n, en⟩ : ∃ n : Nat, n = s1.heap.objs.size := ⟨_, rfl⟩
      rw [← en] at z1 z2 z3 z4 z5 z6 la lb ⊢
      have far : ∀ c : Nat, n ≤ c → s1.heap.get? c = none := fun c hcn => by
        cases z : s1.heap.get? c with
        | none => rfl
        | some o => exact absurd (Nat.lt_of_lt_of_le (Heap.lt_size z) (en ▸ hcn)) (Nat.lt_irrefl _)
      have na : @LT.lt Nat instLTNat a n := la
      have nb : @LT.lt Nat instLTNat b n := lb
      have S : ZipSep2 (n + 4) (n + 2) (n + 3) n (n + 1) [n, a] [n + 1, b] := by
        refine ⟨?_, ?_, ?_, ?_, ?_, ?_, ?_, ?_, ?_, ?_, ?_, ?_, ?_⟩
        all_goals simp only [List.mem_cons, List.not_mem_nil, or_false, not_or, true_or, ne_eq]
        all_goals first | (show ¬ ((_ : Nat) = (_ : Nat)); omega) | (refine ⟨?_, ?_⟩ <;> (show ¬ ((_ : Nat) = (_ : Nat)); omega))
      refine tuple_zip (s := { s1 with heap := h1 }) (hp := s1.heap) (n := min its.toArray.size its2.toArray.size) S (Draws.tuple (by simp [hh]) n a (show ¬ (@Eq Nat a n) from by omega) its.toArray) (Draws.list (by simp [hh]) (n + 1) b (show ¬ (@Eq Nat b (n + 1)) from by omega) its2.toArray) rfl ?_
        z1 z2 ⟨_, _, z3⟩ ⟨⟨_, z4, rfl, rfl⟩, Heap.IsTuple.at p1 fun o e => k1 _ _ e⟩ ⟨⟨_, z5, rfl, rfl⟩, p3.isList.at fun o e => k1 _ _ e⟩ ?_ ?_ (far _ (by omega)) (far _ (by omega)) (far _ (by omega)) (far _ (by omega)) (fun c hc => far c (by have : h1.objs.size ≤ c := hc; omega)) k1 fun h' tk Ts hp kp => ?_
      · have : its.toArray.size ≤ sizeLine := by rw [List.size_toArray, ← rv.length]; exact hz1
        omega
      · intro c hcm
        show @LT.lt Nat instLTNat c h1.objs.size
        rw [z6]
        rcases List.mem_cons.mp hcm with rfl | hcm
        · omega
        · rw [List.mem_singleton.mp hcm]; omega
      · intro c hcm
        show @LT.lt Nat instLTNat c h1.objs.size
        rw [z6]
        rcases List.mem_cons.mp hcm with rfl | hcm
        · omega
        · rw [List.mem_singleton.mp hcm]; omega
      · have hm0 : h1.objs.size = n + 5 := z6
        have keep : ∀ b o, s1.heap.get? b = some o → (h'.push { cls := .type "tuple", data := .seq (Ts.map Value.ref).toArray }).get? b = some o := fun b o e => Heap.get?_push_of_some _ (kp b o e)
        have old : ∀ c o, s1.heap.get? c = some o → c ∉ Ts ∧ c ≠ h'.objs.size := fun c o e => by
          have l1 : @LT.lt Nat instLTNat c n := en ▸ Heap.lt_size e
          refine ⟨fun hT => ?_, Nat.ne_of_lt (Heap.lt_size (kp c o e))⟩
          have l2 : @LE.le Nat instLENat h1.objs.size c := hp.lo c hT
          omega
        have tr : ∀ c o, H1 c = some o → ∃ u, s1.heap.get? c = some u := fun c o e => objOk_get (I1.hok c o e)
        have lenT : Ts.length = min xs.length ys.length := by
          rw [hp.len, List.size_toArray, List.size_toArray, ← rv.length, ← rv2.length]
        have ndT : Ts.Nodup := hp.up.imp fun h e => by rw [e] at h; exact Nat.lt_irrefl _ h
        have frT : ∀ T ∈ Ts, H1 T = none := fun T hT => by
          cases z : H1 T with
          | none => rfl
          | some u =>
            obtain ⟨v, hv⟩ := tr T u z
            exact ((old T v hv).1 hT).elim
        have frp : H1 h'.objs.size = none := by
          cases z : H1 h'.objs.size with
          | none => rfl
          | some u =>
            obtain ⟨v, hv⟩ := tr _ u z
            exact ((old _ v hv).2 rfl).elim
        have pT : h'.objs.size ∉ Ts := fun hT => by
          obtain ⟨j, hj, e⟩ := List.getElem_of_mem hT
          obtain ⟨x, y, ht, _⟩ := hp.at_ j _ (by rw [List.getElem?_eq_getElem hj, e])
          exact Nat.lt_irrefl _ (Heap.lt_size ht)
        have hnew : ∀ c o, s1.heap.get? c = some o → upd (zipH H1 Ts (xs.zip ys)) h'.objs.size (.tup (Ts.map V.ref)) c = H1 c := fun c o e => by
          rw [upd_ne (old c o e).2, zipH_out _ _ _ _ (old c o e).1]
        have hok : HOk X.prog X.w (upd (zipH H1 Ts (xs.zip ys)) h'.objs.size (.tup (Ts.map V.ref))) (h'.push { cls := .type "tuple", data := .seq (Ts.map Value.ref).toArray }) := by
          refine hok_new (hok_zip Ts (xs.zip ys) H1 (by rw [lenT, List.length_zip]) ndT frT (fun j T pr e1 e2 => ?_) (I1.hok.kept keep)) (by rw [zipH_out _ _ _ _ pT]; exact frp) ?_
          · obtain ⟨x, y, ht, hx1, hy1⟩ := hp.at_ j T e1
            obtain ⟨x', y'⟩ := pr
            rw [List.getElem?_zip_eq_some] at e2
            obtain ⟨u, hu, ru⟩ := rv.get e2.1
            obtain ⟨u2, hu2, ru2⟩ := rv2.get e2.2
            have e3 : its[j]? = some x := by simpa using hx1
            have e4 : its2[j]? = some y := by simpa using hy1
            rw [hu] at e3; cases e3
            rw [hu2] at e4; cases e4
            exact ⟨_, _, ru, ru2, Heap.get?_push_of_some _ ht⟩
          · refine ⟨by rw [List.length_map, lenT]; have := hz1; omega, Ts.map Value.ref, vals_refs Ts, ⟨_, Heap.get?_push_size _ rfl, rfl, _, rfl⟩⟩
        have J : Inv X pins σ (upd (zipH H1 Ts (xs.zip ys)) h'.objs.size (.tup (Ts.map V.ref))) { s1 with heap := h'.push { cls := .type "tuple", data := .seq (Ts.map Value.ref).toArray }, toks := tk } :=
          I1.un (un_ext keep (fun c o e n => by rw [hnew c o e]; exact n) fun c o e => by
            obtain ⟨u, hu⟩ := tr c o e
            rw [hnew c u hu]; exact e) hok
        exact ⟨.ref h'.objs.size, _, J, rfl, q1 Ts _ lenT ndT frT frp pT⟩
end
theorem st_zip {g : Gv} {Gx : Hp} {σ : L2.St} {ρ : Sls} : ∀ (Ts : List Addr) (ps : List (V × V)) {H F : Hp}, StG g H F Gx σ ρ [] → Ts.length = ps.length → Ts.Nodup → (∀ T ∈ Ts, H T = none) →
    ∃ F', Le F F' ∧ StG g (zipH H Ts ps) F' Gx σ ρ [] ∧ ∀ (j : Nat) (T : Addr) (p : V × V), Ts[j]? = some T → ps[j]? = some p → F' T = some (.tup [p.1, p.2])
  | [], ps, H, F, st, _, _, _ => ⟨F, Le.refl F, by rw [show zipH H [] ps = H by rw [zipH]; intro T Ts p ps h; cases h]; exact st, fun j T p e => (by simp at e)⟩
  | T :: Ts, [], H, F, st, hl, _, _ => by cases hl
  | T :: Ts, p :: ps, H, F, st, hl, nd, hn => by
    have nd := List.nodup_cons.mp nd
    obtain ⟨le, st2⟩ := st.newF (u := .tup [p.1, p.2]) (hn T List.mem_cons_self)
    obtain ⟨F', le2, st3, h⟩ := st_zip Ts ps st2 (by simpa using hl) nd.2 (fun T' hT' => by
      rw [upd_ne fun z => nd.1 (by rw [← z]; exact hT')]
      exact hn T' (List.mem_cons_of_mem _ hT'))
    refine ⟨F', le.trans le2, by rw [zipH]; exact st3, fun j T' p' e1 e2 => ?_⟩
    cases j with
    | zero => cases e1; cases e2; exact le2 _ _ upd_same
    | succ j => exact h j T' p' (by simpa using e1) (by simpa using e2)
theorem reps_zip {g : Gv} {F : Hp} : ∀ {ds es : List D} {xs ys : List V} (Ts : List Addr), RepVs g F ds xs → RepVs g F es ys → Ts.length = (xs.zip ys).length → (∀ (j : Nat) (T : Addr) (p : V × V), Ts[j]? = some T → (xs.zip ys)[j]? = some p → F T = some (.tup [p.1, p.2])) → RepVs g F (zipD ds es) (Ts.map V.ref)
  | [], es, xs, ys, Ts, r1, r2, hl, h => by
    rw [RepVs] at r1; subst r1
    have : Ts = [] := List.length_eq_zero_iff.mp (by simpa using hl)
    subst this
    show RepVs g F [] []
    rw [RepVs]
  | d :: ds, [], xs, ys, Ts, r1, r2, hl, h => by
    rw [RepVs] at r2; subst r2
    have : Ts = [] := List.length_eq_zero_iff.mp (by simpa using hl)
    subst this
    show RepVs g F [] []
    rw [RepVs]
  | d :: ds, e :: es, xs, ys, Ts, r1, r2, hl, h => by
    rw [RepVs] at r1 r2
    obtain ⟨x, xs, rfl, a1, a2⟩ := r1
    obtain ⟨y, ys, rfl, b1, b2⟩ := r2
    match Ts, hl, h with
    | T :: Ts, hl, h =>
      show RepVs g F (.tup [d, e] :: zipD ds es) (.ref T :: Ts.map V.ref)
      rw [RepVs]
      refine ⟨_, _, rfl, ?_, reps_zip Ts a2 b2 (by simpa using hl) fun j T' p' e1 e2 => h (j + 1) T' p' (by simpa using e1) (by simpa using e2)⟩
      rw [RepV]
      refine ⟨T, [x, y], rfl, .inl (.inl (h 0 T (x, y) rfl rfl)), ?_⟩
      rw [RepVs]
      refine ⟨_, _, rfl, a1, ?_⟩
      rw [RepVs]
      refine ⟨_, _, rfl, b1, ?_⟩
      rw [RepVs]
def tupZipF (fs : M (List O)) : M O := fs.bind fun os => match os with
  | [.val (.tup ds), o] => M.of (o.dsL.map fun es => .val (.tup (zipD ds es)))
  | _ => M.stuck
section
variable {W : WX} {X : Cx} {ca : Ca} {e e2 : Expr} {p p2 q pos : Pos} {fs : M (List O)}
theorem e_tupZip (hc : X.calm = true) (hg : Gl X "tuple") (hm : X.mg "tuple" = none) (hg2 : Gl X "zip") (hm2 : X.mg "zip" = none) (ha : PA X [e, e2] (TL (gv X ca) W fs))
    (hs : starEach [e, e2] X.env = (false, eval e X.env) :: starEach [e2] X.env := by rfl) (hpl : (backTo q (starEach [e2] X.env)).any (·.1) = false := by rfl) :
    PE X (.Call (.Name "tuple" p) [.Call (.Name "zip" p2) [e, e2] [] q] [] pos) (T (gv X ca) W (tupZipF fs)) :=
  PE.imp (pe_tupZip hc hg hm hg2 hm2 ha hs hpl) fun σ H Q ⟨F, Gx, ρ, st, r⟩ => ⟨F, Gx, ρ, st, r.bind.mono fun os H1 F1 ρ1 le r1 vs hl st1 => by
    split at r1
    · rename_i ds o
      obtain ⟨o1, e1, q1⟩ := r1.of
      obtain ⟨es, e2, rfl⟩ := Option.map_eq_some_iff.mp e1
      match vs, hl with
      | [v, u], _ =>
        have r1v := st1.gd.val (B := (u, o) :: ([] ++ slL σ ρ1))
        rw [RepV] at r1v
        obtain ⟨a, xs, rfl, ha, ra⟩ := r1v
        have st2 := st1.drop1
        obtain ⟨S, rv⟩ := Good.view (B := [] ++ slL σ ρ1) st2.gd
        obtain ⟨b, ys, rfl, hb, rb⟩ := dsL_ok st2.le rv e2
        have st3 := st2.drop1
        refine ⟨a, b, xs, ys, rfl, SqT.mono st3.le ha, SqL.of hb, fun Ts p hlen nd fr frp pT => ?_⟩
        obtain ⟨F2, le2, st4, hF⟩ := st_zip Ts (xs.zip ys) st3 (by rw [hlen, List.length_zip]) nd fr
        have y : Yd (gv X ca) (zipH H1 Ts (xs.zip ys)) F2 Gx σ ρ1 (.val (.tup (zipD ds es))) Q := fun v H' F' le3 st5 => q1 H' F' (le2.trans le3) v st5
        exact Yd.tup y st4 (reps_zip Ts (RepVs.mono _ le2 _ _ ra) (RepVs.mono _ le2 _ _ rb) (by rw [hlen, List.length_zip]) hF) p (by rw [zipH_out _ _ _ _ pT]; exact frp)
    · exact (show False from r1).elim⟩
end
end PF

set_option Elab.async false
set_option linter.all false
set_option maxRecDepth 100000
set_option maxHeartbeats 4000000
/-! ### dict(zip(text, text)) -/
namespace PF
open PySem PySem.Spec PyProof.Rows L2
section
variable {Pg : Program} {w : World} {A : Around} {E : Value → Shared → Prop} {s : Shared} {z TI TO i1 i2 T : Addr} {fp1 fp2 : List Addr} {n1 n2 i : Nat} {P1 P2 : Nat → Value → Prop} {St1 St2 : Nat → Heap → Prop} {b : Bool}
theorem zs_nextL {X : Addr} {Q : Option Value → Shared → Prop} (S : ZipSep2 z TI TO i1 i2 fp1 fp2) (D1 : Draws Pg w A.in1 i1 fp1 n1 P1 St1) (D2 : Draws Pg w A.in1 i2 fp2 n2 P2 St2) (x : ZS z TI TO i1 i2 St1 St2 X i s.heap) (hX : X < s.heap.objs.size) (l1 : i < n1) (l2 : i < n2)
    (q : ∀ x1 x2 h' tk, P1 i x1 → P2 i x2 → ZS z TI TO i1 i2 St1 St2 X (i + 1) h' → IsTupOf2 h' s.heap.objs.size x1 x2 → h'.objs.size = s.heap.objs.size + 1 → (∀ c o, c ≠ z → c ≠ TO → c ≠ i1 → c ≠ i2 → s.heap.get? c = some o → h'.get? c = some o) → Q (some (.ref s.heap.objs.size)) { s with heap := h', toks := tk }) :
    wpAny (model Pg w) A (pyNext (.ref z)) Q E s := by
  obtain ⟨st, ti, ⟨a1, a2, to⟩, s1, s2⟩ := x
  have lt : ∀ {c o}, s.heap.get? c = some o → s.heap.objs.size ≠ c := fun e => Nat.ne_of_gt (Heap.lt_size e)
  rcases st with y | ⟨T, b, y, b1, b2, b3, b4⟩
  · refine wpAny_pyNext_zipD2_item S D1 D2 y ti to s1 s2 l1 l2 fun x1 x2 h' tk p1 p2 c1 c2 d1 d2 c5 c6 k => ?_
    have e1 : s.heap.objs.size ≠ i1 := by obtain ⟨_, e⟩ := D1.live _ _ s1; exact lt e
    have e2 : s.heap.objs.size ≠ i2 := by obtain ⟨_, e⟩ := D2.live _ _ s2; exact lt e
    exact q x1 x2 h' tk p1 p2 ⟨.inr ⟨s.heap.objs.size, false, ⟨c1, _, c5⟩, lt y, e1, e2, Nat.ne_of_gt hX⟩, k _ _ S.TIz S.TITO S.TIi1 S.TIi2 ti, ⟨_, _, c2⟩, d1, d2⟩ c5 c6 k
  · refine zheld_next S D1 D2 y ti s1 s2 l1 l2 b1 b2 b3 fun x1 x2 h' tk p1 p2 c1 d1 d2 c5 c6 k => ?_
    exact q x1 x2 h' tk p1 p2 ⟨.inr ⟨T, true, c1, b1, b2, b3, b4⟩, k _ _ S.TIz S.TIi1 S.TIi2 ti, ⟨a1, a2, k _ _ S.TOz S.Ti1 S.Ti2 to⟩, d1, d2⟩ c5 c6 fun c o e1 _ e3 e4 e => k c o e1 e3 e4 e
end
/-- the sign of a text at a place -/
def SgAt (x : Str) (i : Nat) (v : Value) : Prop := ∃ c u, x.cps[i]? = some c ∧ v = .str ⟨#[c]⟩ u
theorem pairArg_zipT {Pg : Program} {w : World} (z TI TO i1 i2 : Addr) (S : ZipSep2 z TI TO i1 i2 [i1] [i2]) (x y : Str) (t1 t2 : Tok) :
    PairArg Pg w "zip" z [z, TI, TO, i1, i2] [z, TO, i1, i2] (min x.cps.size y.cps.size) (fun i k v => SgAt x i k ∧ SgAt y i v)
      (fun h => IsZip h z TI TO .none ∧ IsTupOf2 h TI (.ref i1) (.ref i2) ∧ (∃ a b, IsTupOf2 h TO a b) ∧ h.IsStrIter i1 (strIterType x) x t1 0 ∧ h.IsStrIter i2 (strIterType y) y t2 0) where
  type := fun s ok => ⟨_, ok.1, rfl⟩
  notDict := by decide
  keep := fun h h' ok hk => by
    obtain ⟨hz, hTI, ⟨a, b, hTO⟩, ⟨o1, h1, r1⟩, ⟨o2, h2, r2⟩⟩ := ok
    exact ⟨hk _ _ hz, hk _ _ hTI, ⟨a, b, hk _ _ hTO⟩, ⟨o1, hk _ _ h1, r1⟩, ⟨o2, hk _ _ h2, r2⟩⟩
  there := fun h ok b hb => by
    obtain ⟨hz, hTI, ⟨a, c, hTO⟩, ⟨o1, h1, _⟩, ⟨o2, h2, _⟩⟩ := ok
    simp only [List.mem_cons, List.not_mem_nil, or_false] at hb
    rcases hb with rfl | rfl | rfl | rfl | rfl
    all_goals first | exact ⟨_, hz⟩ | exact ⟨_, hTI⟩ | exact ⟨_, hTO⟩ | exact ⟨_, h1⟩ | exact ⟨_, h2⟩
  sub := fun b hb => by simp at hb ⊢; rcases hb with rfl | rfl | rfl | rfl <;> simp
  noKeys := fun A s Q E hA ok h => getAttrOr_miss_zip ok.1 rfl rfl rfl zip_no_keys (by decide +kernel) hA h
  iter := fun A s d Q E hA ok hd hdf h => by
    obtain ⟨hz, hTI, hTO, h1, h2⟩ := ok
    simp only [List.mem_cons, List.not_mem_nil, or_false, not_or] at hdf
    obtain ⟨dz, dTI, dTO, di1, di2⟩ := hdf
    have D1 : Draws Pg w A.in1 i1 [i1] x.cps.size (SgAt x) (fun i h => h.IsStrIter i1 (strIterType x) x t1 i) := Draws.text (by simp [hA]) i1 x t1
    have D2 : Draws Pg w A.in1 i2 [i2] y.cps.size (SgAt y) (fun i h => h.IsStrIter i2 (strIterType y) y t2 i) := Draws.text (by simp [hA]) i2 y t2
    refine wpAny_pyIter_zip hz (h z [z, TO, i1, i2] (fun i h => ZS z TI TO i1 i2 (fun i h => h.IsStrIter i1 (strIterType x) x t1 i) (fun i h => h.IsStrIter i2 (strIterType y) y t2 i) d i h) s.heap s.toks ?_
      ⟨.inl hz, hTI, hTO, h1, h2⟩ (fun _ _ e => e) fun b hb => .inl hb)
    exact {
      off := fun hm => by
        simp only [List.mem_cons, List.not_mem_nil, or_false] at hm
        rcases hm with e | e | e | e
        · exact dz e
        · exact dTO e
        · exact di1 e
        · exact di2 e
      frame := fun i h₁ h₂ st hk => st.frame S D1 D2 (Ne.symm dz) (Ne.symm dTI) (Ne.symm dTO) (by simpa using di1) (by simpa using di2) hk
      item := fun i s₁ Q₁ E₁ hi st hds hQ => by
        refine zs_nextL S D1 D2 st hds (by omega) (by omega) fun x1 x2 h' tk p1 p2 hz' ht hsz kp => ?_
        exact hQ s₁.heap.objs.size _ _ h' tk ⟨p1, p2⟩ (.inl ⟨_, ht, rfl, _, rfl⟩) hz'
          fun c o hc e => kp c o (fun q => hc (by simp [q])) (fun q => hc (by simp [q])) (fun q => hc (by simp [q])) (fun q => hc (by simp [q])) e
      done := fun s₁ Q₁ E₁ st hQ => by
        refine zs_stop S D1 D2 st (by omega) (by omega) (by omega) fun h' tk kp => ?_
        exact hQ h' tk fun c o hc e => kp c o (fun q => hc (by simp [q])) (fun q => hc (by simp [q])) (fun q => hc (by simp [q])) (fun q => hc (by simp [q])) e }
theorem stored_new {vs : List (Key × Value)} {k : Key} {v : Value} (h : ∀ q ∈ vs, q.1 ≠ k) : stored vs k v = vs ++ [(k, v)] := by
  unfold stored
  rw [if_neg]
  intro z
  obtain ⟨q, hq, e⟩ := List.any_eq_true.mp z
  exact h q hq (by simpa using e)
/-- what a dict has got of two texts' signs -/
structure SgDict (x y : Str) (i : Nat) (vs : List (Key × Value)) : Prop where
  len : vs.length = i
  at_ : ∀ (j : Nat) (k : Key) (v : Value), vs[j]? = some (k, v) → ∃ c e u, x.cps[j]? = some c ∧ y.cps[j]? = some e ∧ k = .inr ⟨#[c]⟩ ∧ v = .str ⟨#[e]⟩ u
theorem call_dict_texts {Pg : Program} {w : World} {A : Around} {E : Value → Shared → Prop} {s : Shared} {Q : Value → Shared → Prop} {z TI TO i1 i2 : Addr} (S : ZipSep2 z TI TO i1 i2 [i1] [i2]) {x y : Str} {t1 t2 : Tok} (hxy : x.cps.size = y.cps.size) (nd : x.cps.toList.Nodup) (hsz : x.cps.size ≤ sizeLine) (hh : A.handled = none)
    (ok : IsZip s.heap z TI TO .none ∧ IsTupOf2 s.heap TI (.ref i1) (.ref i2) ∧ (∃ a b, IsTupOf2 s.heap TO a b) ∧ s.heap.IsStrIter i1 (strIterType x) x t1 0 ∧ s.heap.IsStrIter i2 (strIterType y) y t2 0)
    (q : ∀ h' tk vs, h'.DictOf (mixKind Pg w) s.heap.objs.size vs → SgDict x y x.cps.size vs → (∀ b o, b ∉ [z, TO, i1, i2] → s.heap.get? b = some o → h'.get? b = some o) → Q (.ref s.heap.objs.size) { s with heap := h', toks := tk }) :
    wpAny (model Pg w) A (call (.type "dict") [.ref z]) Q E s := by
  have P := pairArg_zipT (Pg := Pg) (w := w) z TI TO i1 i2 S x y t1 t2
  rw [← hxy, Nat.min_self] at P
  refine call_dict_arg P ok fun s₁ hs₁ hdf ok₁ => ?_
  subst hs₁
  refine updateFrom_arg (A := A.in1) (Tab := fun i h => ∃ vs, h.DictOf (mixKind Pg w) s.heap.objs.size vs ∧ SgDict x y i vs) P .none hh ok₁ hdf ⟨[], Heap.DictOf.new s.heap, rfl, fun j k v e => by simp at e⟩ (fun _ _ ⟨_, tb, _⟩ => tb.lt_size)
    (fun i h h' wr' hd _ ⟨vs, tb, r⟩ hk => ⟨vs, tb.at' fun o e => hk _ o hd e, r⟩) ?_ ?_
  · rintro i key v s' Q' E' hi ⟨⟨c, u, hc, rfl⟩, ⟨e, u', he, rfl⟩⟩ ⟨vs, tb, r⟩ _ hQ
    refine wpAny_dictSet_pairs (k := (.inr ⟨#[c]⟩ : Key)) (hsz := by have := r.len; omega) (by show L2.keyIs (.inr ⟨#[c]⟩) (.str ⟨#[c]⟩ u) = true; simp [L2.keyIs, Value.isStrOf]) tb fun h' hm' hs => ?_
    rw [stored_new (fun p hp z => by
      obtain ⟨j, hj, e2⟩ := List.getElem_of_mem hp
      obtain ⟨c2, e3, u2, r1, r2, r3, r4⟩ := r.at_ j p.1 p.2 (by rw [List.getElem?_eq_getElem hj, e2])
      rw [r3] at z
      have z2 : c2 = c := by
        have := Sum.inr.inj z
        simpa using this
      subst z2
      have hjl : j < i := by rw [← r.len]; exact hj
      have hi2 : i < x.cps.toList.length := by simpa using hi
      have n1 := List.pairwise_iff_getElem.mp nd j i (by omega) hi2 hjl
      rw [← Array.getElem?_toList] at r1 hc
      exact n1 (by rw [(List.getElem?_eq_some_iff.mp r1).2, (List.getElem?_eq_some_iff.mp hc).2]))] at hm'
    refine hQ h' _ ⟨_, hm', by rw [List.length_append, r.len]; rfl, fun j k v ej => ?_⟩ hs
    rw [List.getElem?_append] at ej
    split at ej
    · exact r.at_ j k v ej
    · rename_i hj
      rw [r.len] at hj ej
      have hj0 : j - i = 0 := by
        rcases Nat.eq_zero_or_pos (j - i) with q | q
        · exact q
        · rw [List.getElem?_eq_none (by rw [List.length_singleton]; exact q)] at ej; cases ej
      have hji : j = i := by omega
      subst hji
      rw [Nat.sub_self] at ej
      cases ej
      exact ⟨c, e, u', hc, he, rfl, rfl⟩
  · rintro h' tk ⟨vs, tb, r⟩ hk
    exact ⟨rfl, q h' tk vs tb r fun b o hw e => hk b o (Nat.ne_of_lt (Heap.lt_size e)) hw (Heap.get?_push_of_some _ e)⟩
end PF

set_option Elab.async false
set_option linter.all false
set_option maxRecDepth 100000
set_option maxHeartbeats 4000000
/-! ### dict(zip(text, text)) over the slots -/
namespace PF
open PySem PySem.Spec PyProof.Rows L2
def sgK (x : Str) : List Key := x.cps.toList.map fun c => (.inr ⟨#[c]⟩ : Key)
def sgV (x : Str) : List V := x.cps.toList.map fun c => V.str ⟨#[c]⟩
def sgD (x : Str) : List D := x.cps.toList.map fun c => D.str ⟨#[c]⟩
theorem sgK_len (x : Str) : (sgK x).length = x.cps.size := by unfold sgK; simp
theorem sgV_len (x : Str) : (sgV x).length = x.cps.size := by unfold sgV; simp
theorem sgK_nd {x : Str} (h : x.cps.toList.Nodup) : (sgK x).Nodup := by
  unfold sgK
  refine List.Pairwise.map _ (fun a b hab e => hab ?_) h
  have := Sum.inr.inj e
  simpa using this
theorem sgD_key (x : Str) : sgD x = (sgK x).map keyD := by
  unfold sgD sgK
  rw [List.map_map]
  rfl
theorem sgV_rep {g : Gv} {F : Hp} (x : Str) : RepVs g F (sgD x) (sgV x) := by
  unfold sgD sgV
  induction x.cps.toList with
  | nil => rw [List.map_nil, RepVs]; rfl
  | cons c cs ih =>
    rw [List.map_cons, RepVs]
    exact ⟨_, _, rfl, by rw [RepV], ih⟩
theorem kv_sg {x y : Str} {vs : List (Key × Value)} (hxy : x.cps.size = y.cps.size) (r : SgDict x y x.cps.size vs) : KV ((sgK x).zip (sgV y)) vs := by
  have key : ∀ (ks : List (Key × V)) (vs : List (Key × Value)), ks.length = vs.length → (∀ (j : Nat) (a : Key × V) (b : Key × Value), ks[j]? = some a → vs[j]? = some b → a.1 = b.1 ∧ RelV a.2 b.2) → KV ks vs := by
    intro ks
    induction ks with
    | nil =>
      intro vs hl _
      have : vs = [] := List.length_eq_zero_iff.mp hl.symm
      subst this
      exact .nil
    | cons a ks ih =>
      intro vs hl h
      match vs, hl, h with
      | b :: vs, hl, h => exact .cons (h 0 a b rfl rfl) (ih vs (by simpa using hl) fun j a' b' e1 e2 => h (j + 1) a' b' (by simpa using e1) (by simpa using e2))
  refine key _ _ (by rw [List.length_zip, sgK_len, sgV_len, r.len, hxy, Nat.min_self]) fun j a b e1 e2 => ?_
  obtain ⟨a1, a2⟩ := a
  obtain ⟨b1, b2⟩ := b
  rw [List.getElem?_zip_eq_some] at e1
  obtain ⟨c, e, u, h1, h2, rfl, rfl⟩ := r.at_ j b1 b2 e2
  obtain ⟨k1, k2⟩ := e1
  unfold sgK at k1
  unfold sgV at k2
  rw [List.getElem?_map, Array.getElem?_toList, h1] at k1
  rw [List.getElem?_map, Array.getElem?_toList, h2] at k2
  cases k1
  cases k2
  exact ⟨rfl, ⟨u, rfl⟩⟩
section
variable {X : Cx}
def tDictZip (ta : TA) : TE := fun σ H Q => ta σ H fun vs H1 => ∃ x y : Str, vs = [V.str x, V.str y] ∧ x.cps.size = y.cps.size ∧ x.cps.toList.Nodup ∧ x.cps.size ≤ sizeLine ∧
  ∀ p : Addr, H1 p = none → Q (.ref p) (upd H1 p (.dK ((sgK x).zip (sgV y))))
theorem pe_dictZip {e e2 : Expr} {ta : TA} {p p2 q pos : Pos} (hc : X.calm = true) (hg : Gl X "dict") (hm : X.mg "dict" = none) (hg2 : Gl X "zip") (hm2 : X.mg "zip" = none) (ha : PA X [e, e2] ta)
    (hs : starEach [e, e2] X.env = (false, eval e X.env) :: starEach [e2] X.env := by rfl) (hpl : (backTo q (starEach [e2] X.env)).any (·.1) = false := by rfl) :
    PE X (.Call (.Name "dict" p) [.Call (.Name "zip" p2) [e, e2] [] q] [] pos) (tDictZip ta) := by
  refine ⟨fun pins s σ H Q I h => ?_⟩
  refine Call_ (ld_blt I hg hm PyProof.Rows.boot_dict ?_)
  refine PyProof.Rows.callWith_type1 (PyProof.Rows.args_cons ?_ rfl) rfl rfl
  refine Call_ (ld_blt I hg2 hm2 PyProof.Rows.boot_zip ?_)
  refine PyProof.Rows.callWith_type1 (thn (ha.run q pins s σ H _ I h) fun us s1 ⟨vs, H1, I1, r1, q1⟩ => ?_) hs hpl
  obtain ⟨x, y, rfl, hxy, nd, hsz, q1⟩ := q1
  cases r1 with
  | cons r rr =>
    cases rr with
    | cons r' rr =>
      cases rr
      obtain ⟨t1, rfl⟩ := r
      obtain ⟨t2, rfl⟩ := r'
      refine zip_call (begins_text x t1) (begins_text y t2) trivial trivial fun h1 z1 z2 z3 z4 z5 z6 k1 => ?_
      refine PyProof.Rows.args_nil ?_
      have hh : X.A.handled = none := I1.ok.hd hc
      obtain ⟨n, en⟩ : ∃ n : Nat, n = s1.heap.objs.size := ⟨_, rfl⟩
      have big : @LT.lt Nat instLTNat sysModules n := by rw [en]; exact I1.big
      rw [← en] at z1 z2 z3 z4 z5 z6 ⊢
      have S : ZipSep2 (n + 4) (n + 2) (n + 3) n (n + 1) [n] [n + 1] := by
        refine ⟨?_, ?_, ?_, ?_, ?_, ?_, ?_, ?_, ?_, ?_, ?_, ?_, ?_⟩
        all_goals simp only [List.mem_cons, List.not_mem_nil, or_false, not_or, true_or, ne_eq]
        all_goals (show ¬ ((_ : Nat) = (_ : Nat)); omega)
      refine call_dict_texts (s := { s1 with heap := h1 }) S hxy nd hsz (by simp [hh]) ⟨z1, z2, ⟨_, _, z3⟩, ⟨_, z4, rfl, rfl⟩, ⟨_, z5, rfl, rfl⟩⟩ fun h' tk vs hd sg kp => ?_
      have hp5 : h1.objs.size = n + 5 := z6
      have keep : ∀ b o, s1.heap.get? b = some o → h'.get? b = some o := fun b o e => by
        have l1 : @LT.lt Nat instLTNat b n := en ▸ Heap.lt_size e
        refine kp b o (fun hm => ?_) (k1 b o e)
        simp only [List.mem_cons, List.not_mem_nil, or_false] at hm
        have hm : (@Eq Nat b (n + 4)) ∨ (@Eq Nat b (n + 3)) ∨ (@Eq Nat b n) ∨ (@Eq Nat b (n + 1)) := hm
        omega
      have tr : ∀ c o, H1 c = some o → ∃ u, s1.heap.get? c = some u := fun c o e => objOk_get (I1.hok c o e)
      have old : ∀ c o, s1.heap.get? c = some o → c ≠ h1.objs.size := fun c o e => by
        have l1 : @LT.lt Nat instLTNat c n := en ▸ Heap.lt_size e
        show ¬ (@Eq Nat c h1.objs.size)
        omega
      have frp : H1 h1.objs.size = none := by
        cases z : H1 h1.objs.size with
        | none => rfl
        | some u =>
          obtain ⟨v, hv⟩ := tr _ u z
          exact (old _ v hv rfl).elim
      have hsys : (h1.objs.size == sysModules) = false := by
        refine beq_eq_false_iff_ne.mpr ?_
        show ¬ (@Eq Nat h1.objs.size sysModules)
        omega
      have hok : HOk X.prog X.w (upd H1 h1.objs.size (.dK ((sgK x).zip (sgV y)))) h' :=
        hok_new (I1.hok.kept keep) frp ⟨by rw [List.length_zip, sgK_len, sgV_len]; omega, hsys, vs, kv_sg hxy sg, hd⟩
      have J : Inv X pins σ (upd H1 h1.objs.size (.dK ((sgK x).zip (sgV y)))) { s1 with heap := h', toks := tk } :=
        I1.un (un_ext keep (fun c o e n => by rw [upd_ne (old c o e)]; exact n) fun c o e => by
          obtain ⟨u, hu⟩ := tr c o e
          rw [upd_ne (old c u hu)]; exact e) hok
      exact ⟨.ref h1.objs.size, _, J, rfl, q1 _ frp⟩
end
def dictZipF (fs : M (List O)) : M O := fs.bind fun os => match os with
  | [.val (.str x), .val (.str y)] => M.of (if x.cps.size = y.cps.size ∧ x.cps.toList.Nodup ∧ x.cps.size ≤ lim then some (.val (.dct false (sgD x) (sgD y))) else none)
  | _ => M.stuck
section
variable {W : WX} {X : Cx} {ca : Ca} {e e2 : Expr} {p p2 q pos : Pos} {fs : M (List O)}
theorem e_dictZip (hc : X.calm = true) (hg : Gl X "dict") (hm : X.mg "dict" = none) (hg2 : Gl X "zip") (hm2 : X.mg "zip" = none) (ha : PA X [e, e2] (TL (gv X ca) W fs))
    (hs : starEach [e, e2] X.env = (false, eval e X.env) :: starEach [e2] X.env := by rfl) (hpl : (backTo q (starEach [e2] X.env)).any (·.1) = false := by rfl) :
    PE X (.Call (.Name "dict" p) [.Call (.Name "zip" p2) [e, e2] [] q] [] pos) (T (gv X ca) W (dictZipF fs)) :=
  PE.imp (pe_dictZip hc hg hm hg2 hm2 ha hs hpl) fun σ H Q ⟨F, Gx, ρ, st, r⟩ => ⟨F, Gx, ρ, st, r.bind.mono fun os H1 F1 ρ1 le r1 vs hl st1 => by
    split at r1
    · rename_i x y
      obtain ⟨o1, e1, q1⟩ := r1.of
      split at e1
      · rename_i hcond
        cases e1
        match vs, hl with
        | [v, u], _ =>
          have rv := st1.gd.val (B := (u, .val (.str y)) :: ([] ++ slL σ ρ1))
          rw [RepV] at rv
          subst rv
          have st2 := st1.drop1
          have ru := st2.gd.val (B := [] ++ slL σ ρ1)
          rw [RepV] at ru
          subst ru
          have st3 := st2.drop1
          refine ⟨x, y, rfl, hcond.1, hcond.2.1, Nat.le_trans hcond.2.2 (by decide), fun p hp => ?_⟩
          obtain ⟨le2, st4⟩ := st3.newF (u := .dK ((sgK x).zip (sgV y))) hp
          refine q1 _ _ le2 (.ref p) (st4.ofVal ?_)
          rw [RepV]
          exact ⟨p, sgV y, rfl, .inl ⟨sgK x, sgD_key x, sgK_nd hcond.2.1, by rw [sgK_len, sgV_len]; exact hcond.1, upd_same⟩, sgV_rep y⟩
      · cases e1
    · exact (show False from r1).elim⟩
end
end PF

set_option Elab.async false
set_option linter.all false
set_option maxRecDepth 100000
set_option maxHeartbeats 4000000
namespace G
open PySem PySem.Spec PyProof.Rows L2 PF
def tI (a b : Int) : D := .tup [.int a, .int b]
def tx (x : String) : D := .str (PySem.Str.ofString x)
def d_STEPS : D := .dct false [tx "e", tx "n", tx "o", tx "s", tx "w"] [tI 0 1, tI (-1) 0, tI 0 0, tI 1 0, tI 0 (-1)]
def d_RULES : D := .tup [tx "near", tx "first", tx "stay"]
def b_is_number : M Out :=
  retS (blO (andB ((biF isiF (two (seqP 0 (M.pure (.val (.ty "int")))))).bind asB) (andB (notB ((biF isiF (two (seqP 0 (M.pure (.val (.ty "bool")))))).bind asB)) (chI leC leC (pk 1) (pk 0) (pk 2)))))
def m_is_number : M O := defM 3 b_is_number
def b_need_count : M Out :=
  iteM (notB ((callF [none, none, none] (consA (rd 0) (consA (rd 1) (consA (rd 2) (nilA)))) [false, false, false] m_is_number).bind asB)) (M.stuck) (M.pure .nx)
def m_need_count : M O := defM 3 b_need_count
def b_is_cell : M Out :=
  seqS (iteM (orB (notB ((biF isiF (two (seqP 0 (M.pure (.val (.ty "tuple")))))).bind asB)) (cmpF neC (seq2 (biF lenF (one (pk 0))) (M.pure (.val (.int 2)))))) (retS (M.pure (.val (.bl false)))) (M.pure .nx))
    (retS (blO (andB ((callF [none, none, none] (consA (binF idxE (seqP 0 (M.pure (.val (.int 0))))) (consA (M.pure (.val (.int 0))) (consA (binF subG (seq2 (binF idxE (seqP 1 (M.pure (.val (.int 0))))) (M.pure (.val (.int 1))))) (nilA)))) [false, false, false] m_is_number).bind asB) ((callF [none, none, none] (consA (binF idxE (seqP 0 (M.pure (.val (.int 1))))) (consA (M.pure (.val (.int 0))) (consA (binF subG (seq2 (binF idxE (seqP 1 (M.pure (.val (.int 1))))) (M.pure (.val (.int 1))))) (nilA)))) [false, false, false] m_is_number).bind asB))))
def m_is_cell : M O := defM 2 b_is_cell
def b_is_post : M Out :=
  seqS (iteM (orB (notB ((biF isiF (two (seqP 0 (M.pure (.val (.ty "tuple")))))).bind asB)) (cmpF neC (seq2 (biF lenF (one (pk 0))) (M.pure (.val (.int 3)))))) (retS (M.pure (.val (.bl false)))) (M.pure .nx))
    (retS (blO (andB ((callF [none, none] (consA (sliP 0 (M.pure none) ((M.pure (.val (.int 2))).bind asI)) (consA (rd 1) (nilA))) [false, false] m_is_cell).bind asB) ((callF [none, none, none] (consA (binF idxE (seqP 0 (M.pure (.val (.int 2))))) (consA (M.pure (.val (.int 1))) (consA (M.pure (.val (.int 4))) (nilA)))) [false, false, false] m_is_number).bind asB))))
def m_is_post : M O := defM 2 b_is_post
def b_need_floor : M Out :=
  seqS (iteM (orB (notB ((biF isiF (two (seqP 0 (M.pure (.val (.ty "tuple")))))).bind asB)) (cmpF neC (seq2 (biF lenF (one (pk 0))) (M.pure (.val (.int 4)))))) (M.stuck) (M.pure .nx))
    (seqS ((rngI1 (one (M.pure (.val (.int 2))))).bind fun ds => forL (nmT 1) (iteM (notB ((callF [none, none, none] (consA (binF idxE (seqP 0 (pk 1))) (consA (M.pure (.val (.int 1))) (consA (M.pure (.val (.int 5))) (nilA)))) [false, false, false] m_is_number).bind asB)) (M.stuck) (M.pure .nx)) ds)
    ((seqI ((consA ((consA (M.pure (.val (.int 2))) (consA (M.pure (.val (.int 4))) (nilA))).bind tupM) (consA ((consA (M.pure (.val (.int 3))) (consA (M.pure (.val (.int 8))) (nilA))).bind tupM) (nilA))).bind tupM)).bind fun ds => forL (tupT 2 (consT (nmT 2) (consT (nmT 3) (nilT)))) (seqS (iteM (notB ((biF isiF (two (seq2 (binF idxE (seqP 0 (pk 2))) (M.pure (.val (.ty "tuple")))))).bind asB)) (M.stuck) (M.pure .nx))
    (seqS (setS 4 ((nilA).bind lstM))
    ((enI (binF idxE (seqP 0 (pk 2)))).bind fun ds => forL (tupT 2 (consT (nmT 1) (consT (nmT 5) (nilT)))) (seqS (setS 6 (iteM (cmpF eqC (seqP 2 (M.pure (.val (.int 2))))) (callF [none, none] (consA (rd 5) (consA (rd 0) (nilA))) [false, false] m_is_post) (callF [none, none] (consA (rd 5) (consA (rd 0) (nilA))) [false, false] m_is_cell)))
    (seqS (iteM (orB (cmpF eqC (seqP 1 (pk 3))) (orB (notB ((pk 6).bind asB)) (cmpF inE (seq2 (sliP 5 (M.pure none) ((M.pure (.val (.int 2))).bind asI)) (pk 4))))) (M.stuck) (M.pure .nx))
    (exprS (appF 4 (sliP 5 (M.pure none) ((M.pure (.val (.int 2))).bind asI)))))) ds))) ds))
def m_need_floor : M O := defM 7 b_need_floor
def b_need_sun : M Out :=
  seqS (iteM (orB (notB ((biF isiF (two (seqP 0 (M.pure (.val (.ty "str")))))).bind asB)) (cmpF eqC (seqP 0 (M.pure (.val (.str (PySem.Str.ofString ""))))))) (M.stuck) (M.pure .nx))
    ((enI (rd 0)).bind fun ds => forL (tupT 2 (consT (nmT 1) (consT (nmT 2) (nilT)))) (iteM (orB (cmpF eqC (seqP 1 (M.pure (.val (.int 6))))) (cmpF ninE (seqP 2 (M.pure (.val d_STEPS))))) (M.stuck) (M.pure .nx)) ds)
def m_need_sun : M O := defM 3 b_need_sun
def b_need_folk : M Out :=
  seqS (iteM (notB ((biF isiF (two (seqP 1 (M.pure (.val (.ty "tuple")))))).bind asB)) (M.stuck) (M.pure .nx))
    (seqS (setS 2 (lcF [8] (seqI (binF idxE (seqP 0 (M.pure (.val (.int 2)))))) (nmT 8) (M.pure true) (sliP 8 (M.pure none) ((M.pure (.val (.int 2))).bind asI))))
    (seqS (setS 3 ((nilA).bind lstM))
    ((enI (rd 1)).bind fun ds => forL (tupT 2 (consT (nmT 4) (consT (nmT 5) (nilT)))) (seqS (iteM (orB (cmpF eqC (seqP 4 (M.pure (.val (.int 4))))) (orB (notB ((biF isiF (two (seqP 5 (M.pure (.val (.ty "tuple")))))).bind asB)) (cmpF neC (seq2 (biF lenF (one (pk 5))) (M.pure (.val (.int 2))))))) (M.stuck) (M.pure .nx))
    (seqS (asgS (rd 5) (tupT 2 (consT (nmT 6) (consT (nmT 7) (nilT)))))
    (seqS (iteM (orB (notB ((callF [none, none] (consA (rd 6) (consA (rd 0) (nilA))) [false, false] m_is_cell).bind asB)) (orB (cmpF inE (seqP 6 (pk 2))) (orB (cmpF inE (seqP 6 (pk 3))) (orB (notB ((biF isiF (two (seqP 7 (M.pure (.val (.ty "str")))))).bind asB)) (cmpF ninE (seqP 7 (M.pure (.val d_RULES)))))))) (M.stuck) (M.pure .nx))
    (exprS (appF 3 (rd 6)))))) ds)))
def m_need_folk : M O := defM 9 b_need_folk
def b_all_cells : M Out :=
  retS (lc2F [1, 2] [2] (rngI1 (one (binF idxE (seqP 0 (M.pure (.val (.int 0))))))) (nmT 1) (M.pure true) (rngI1 (one (binF idxE (seqP 0 (M.pure (.val (.int 1))))))) (nmT 2) (M.pure true) ((consA (rd 1) (consA (rd 2) (nilA))).bind tupM))
def m_all_cells : M O := defM 3 b_all_cells
def b_shaded : M Out :=
  seqS (asgS (binF idxE (seq2 (M.pure (.val d_STEPS)) (pk 1))) (tupT 2 (consT (nmT 2) (consT (nmT 3) (nilT)))))
    (seqS (setS 4 (M.pure (.dct true [] [])))
    (seqS ((seqI (binF idxE (seqP 0 (M.pure (.val (.int 2)))))).bind fun ds => forL (tupT 3 (consT (nmT 5) (consT (nmT 6) (consT (nmT 7) (nilT))))) ((rngI2 (two (seq2 (M.pure (.val (.int 1))) (iteM (cmpF neC (seqP 1 (M.pure (.val (.str (PySem.Str.ofString "o")))))) (binF addG (seqP 7 (M.pure (.val (.int 1))))) (M.pure (.val (.int 1))))))).bind fun ds => forL (nmT 8) (asgS (M.pure (.val (.bl true))) (subT 4 ((consA (binF addG (seqP 5 (binF mulG (seqP 2 (pk 8))))) (consA (binF addG (seqP 6 (binF mulG (seqP 3 (pk 8))))) (nilA))).bind tupM))) ds) ds)
    (seqS ((seqI (binF idxE (seqP 0 (M.pure (.val (.int 3)))))).bind fun ds => forL (tupT 2 (consT (nmT 5) (consT (nmT 6) (nilT)))) (asgS (M.pure (.val (.bl true))) (subT 4 ((consA (binF addG (seqP 5 (pk 2))) (consA (binF addG (seqP 6 (pk 3))) (nilA))).bind tupM))) ds)
    (retS (dcF [9] (seqI (callF [none] (consA (rd 0) (nilA)) [false] m_all_cells)) (nmT 9) (cmpF inE (seqP 9 (pk 4))) (rd 9) (M.pure (.val (.bl true))))))))
def m_shaded : M O := defM 10 b_shaded
def b_shade : M Out :=
  seqS (exprS (callF [none] (consA (rd 0) (nilA)) [false] m_need_floor))
    (seqS (exprS (callF [none] (consA (rd 1) (nilA)) [false] m_need_sun))
    (seqS (exprS (callF [none, none, none] (consA (rd 2) (consA (M.pure (.val (.int 0))) (consA (binF powG (seq2 (M.pure (.val (.int 10))) (M.pure (.val (.int 18))))) (nilA)))) [false, false, false] m_need_count))
    (retS (biF srtF (one (callF [none, none] (consA (rd 0) (consA (binF idxE (seqP 1 (binF modG (seqP 2 (biF lenF (one (pk 1))))))) (nilA))) [false, false] m_shaded))))))
def m_shade : M O := defM 3 b_shade
def b_parted : M Out :=
  seqS (exprS (callF [none] (consA (rd 0) (nilA)) [false] m_need_floor))
    (seqS (exprS (callF [none] (consA (rd 1) (nilA)) [false] m_need_floor))
    (seqS (exprS (callF [none] (consA (rd 2) (nilA)) [false] m_need_sun))
    (seqS ((enI (rd 2)).bind fun ds => forL (tupT 2 (consT (nmT 3) (consT (nmT 4) (nilT)))) (seqS (par2 5 6 (consA (callF [none, none] (consA (rd 0) (consA (rd 4) (nilA))) [false, false] m_shaded) (consA (callF [none, none] (consA (rd 1) (consA (rd 4) (nilA))) [false, false] m_shaded) (nilA))))
    (seqS (setS 7 (lcF [8] (seqI (binF addG (seq2 (callF [none] (consA (rd 0) (nilA)) [false] m_all_cells) (callF [none] (consA (rd 1) (nilA)) [false] m_all_cells)))) (nmT 8) (cmpF neC (seq2 (blO (cmpF inE (seqP 8 (pk 5)))) (blO (cmpF inE (seqP 8 (pk 6)))))) (rd 8)))
    (iteM (cmpF neC (seqP 7 ((nilA).bind lstM))) (retS ((consA (rd 3) (consA (biF minF (one (pk 7))) (nilA))).bind tupM)) (M.pure .nx)))) ds)
    (retS (M.pure (.val .non))))))
def m_parted : M O := defM 9 b_parted
def b_far_from : M Out :=
  retS (binF addG (seq2 (biF absF (one (binF subG (seq2 (binF idxE (seqP 0 (M.pure (.val (.int 0))))) (binF idxE (seqP 1 (M.pure (.val (.int 0))))))))) (biF absF (one (binF subG (seq2 (binF idxE (seqP 0 (M.pure (.val (.int 1))))) (binF idxE (seqP 1 (M.pure (.val (.int 1)))))))))))
def m_far_from : M O := defM 2 b_far_from
def b_seat_for : M Out :=
  seqS (iteM (orB (cmpF eqC (seqP 0 (M.pure (.val (.str (PySem.Str.ofString "stay")))))) (cmpF eqC (seqP 2 ((nilA).bind lstM)))) (retS (rd 1)) (M.pure .nx))
    (seqS (iteM (cmpF eqC (seqP 0 (M.pure (.val (.str (PySem.Str.ofString "first")))))) (retS (binF idxE (seqP 2 (M.pure (.val (.int 0)))))) (M.pure .nx))
    (retS (minKF (rd 2) [1] ((consA (callF [none, none] (consA (rd 1) (consA (rd 0) (nilA))) [false, false] m_far_from) (consA (rd 0) (nilA))).bind tupM))))
def m_seat_for : M O := defM 3 b_seat_for
def b_moved : M Out :=
  seqS (setS 3 (callF [none, none] (consA (rd 0) (consA (rd 1) (nilA))) [false, false] m_shaded))
    (seqS (setS 4 (lcF [11] (seqI (binF idxE (seqP 0 (M.pure (.val (.int 2)))))) (nmT 11) (M.pure true) (sliP 11 (M.pure none) ((M.pure (.val (.int 2))).bind asI))))
    (seqS (setS 5 (biF lstF (one (pk 2))))
    (seqS ((enI (rd 2)).bind fun ds => forL (tupT 2 (consT (nmT 6) (consT (tupT 2 (consT (nmT 7) (consT (nmT 8) (nilT)))) (nilT)))) (iteM (cmpF ninE (seqP 7 (pk 3))) (seqS (setS 9 (lcB [12] 5 (nmT 12) (M.pure true) (binF idxE (seqP 12 (M.pure (.val (.int 0)))))))
    (seqS (setS 10 (lcF [13] (seqI (callF [none] (consA (rd 0) (nilA)) [false] m_all_cells)) (nmT 13) (andB (cmpF inE (seqP 13 (pk 3))) (cmpF ninE (seqP 13 (binF addG (seqP 9 (pk 4)))))) (rd 13)))
    (asgS ((consA (callF [none, none, none] (consA (rd 8) (consA (rd 7) (consA (rd 10) (nilA)))) [false, false, false] m_seat_for) (consA (rd 8) (nilA))).bind tupM) (subT 5 (rd 6))))) (M.pure .nx)) ds)
    (retS (biF tupF (one (pk 5)))))))
def m_moved : M O := defM 14 b_moved
def b_Course_init : M Out :=
  seqS (setS 4 (M.pure (.dct true [] [])))
    (seqS (fldS 0 0 (PySem.Str.ofString "rows") ((nilA).bind lstM))
    (seqS (setS 5 (M.pure (.val (.int 0))))
    (seqS (whileN (cmpF ninE (seq2 ((consA (rd 3) (consA (binF modG (seqP 5 (biF lenF (one (pk 2))))) (nilA))).bind tupM) (pk 4))) (seqS (asgS (rd 5) (subT 4 ((consA (rd 3) (consA (binF modG (seqP 5 (biF lenF (one (pk 2))))) (nilA))).bind tupM)))
    (seqS (exprS (appFldN 0 0 (PySem.Str.ofString "rows") 3))
    (seqS (setS 3 (callF [none, none, none] (consA (rd 1) (consA (binF idxE (seqP 2 (binF modG (seqP 5 (biF lenF (one (pk 2))))))) (consA (rd 3) (nilA)))) [false, false, false] m_moved))
    (augI 5 (M.pure (.val (.int 1))))))) lim)
    (seqS (fldS 0 0 (PySem.Str.ofString "tail") (binF idxE (seqP 4 ((consA (rd 3) (consA (binF modG (seqP 5 (biF lenF (one (pk 2))))) (nilA))).bind tupM))))
    (fldS 0 0 (PySem.Str.ofString "turn") (binF subG (seqP 5 (fldE 0 (PySem.Str.ofString "tail") (pk 0)))))))))
def m_Course_init : M O := defM 6 b_Course_init
def b_Course_at : M Out :=
  seqS (iteM (cmpF ltC (seqP 1 (biF lenF (one (fldE 0 (PySem.Str.ofString "rows") (pk 0)))))) (retS (binF idxE (seq2 (fldE 0 (PySem.Str.ofString "rows") (pk 0)) (pk 1)))) (M.pure .nx))
    (retS (binF idxE (seq2 (fldE 0 (PySem.Str.ofString "rows") (pk 0)) (binF addG (seq2 (fldE 0 (PySem.Str.ofString "tail") (pk 0)) (binF modG (seq2 (binF subG (seqP 1 (fldE 0 (PySem.Str.ofString "tail") (pk 0)))) (fldE 0 (PySem.Str.ofString "turn") (pk 0)))))))))
def m_Course_at : M O := defM 2 b_Course_at
def b_need_all : M Out :=
  seqS (exprS (callF [none] (consA (rd 0) (nilA)) [false] m_need_floor))
    (seqS (exprS (callF [none] (consA (rd 1) (nilA)) [false] m_need_sun))
    (exprS (callF [none, none] (consA (rd 0) (consA (rd 2) (nilA))) [false, false] m_need_folk)))
def m_need_all : M O := defM 3 b_need_all
def b_seats_of : M Out :=
  retS (biF tupF (one (lcF [1, 2] (seqI (rd 0)) (tupT 2 (consT (nmT 1) (consT (nmT 2) (nilT)))) (M.pure true) (rd 1))))
def m_seats_of : M O := defM 3 b_seats_of
def b_seated : M Out :=
  seqS (exprS (callF [none, none, none] (consA (rd 0) (consA (rd 1) (consA (rd 2) (nilA)))) [false, false, false] m_need_all))
    (seqS (exprS (callF [none, none, none] (consA (rd 3) (consA (M.pure (.val (.int 0))) (consA (M.pure (.val (.int 1000000000000000000))) (nilA)))) [false, false, false] m_need_count))
    (retS (callF [none] (consA (callF [none, none] (consA (chkM 0 (PySem.Str.ofString "at") (frzM (makeF 0 (consA (rd 0) (consA (rd 1) (consA (rd 2) (nilA)))) m_Course_init))) (consA (rd 3) (nilA))) [false, false] m_Course_at) (nilA)) [false] m_seats_of)))
def m_seated : M O := defM 4 b_seated
def b_course : M Out :=
  seqS (exprS (callF [none, none, none] (consA (rd 0) (consA (rd 1) (consA (rd 2) (nilA)))) [false, false, false] m_need_all))
    (seqS (setS 3 (frzM (makeF 0 (consA (rd 0) (consA (rd 1) (consA (rd 2) (nilA)))) m_Course_init)))
    (retS ((consA (fldE 0 (PySem.Str.ofString "tail") (pk 3)) (consA (fldE 0 (PySem.Str.ofString "turn") (pk 3)) (consA (lcF [4] (seqI (fldE 0 (PySem.Str.ofString "rows") (pk 3))) (nmT 4) (M.pure true) (callF [none] (consA (rd 4) (nilA)) [false] m_seats_of)) (nilA)))).bind tupM)))
def m_course : M O := defM 5 b_course
def b_restless : M Out :=
  seqS (exprS (callF [none, none, none] (consA (rd 0) (consA (rd 1) (consA (rd 2) (nilA)))) [false, false, false] m_need_all))
    (seqS (setS 3 (frzM (makeF 0 (consA (rd 0) (consA (rd 1) (consA (rd 2) (nilA)))) m_Course_init)))
    (seqS (setS 4 (sliF (fldE 0 (PySem.Str.ofString "rows") (pk 3)) ((fldE 0 (PySem.Str.ofString "tail") (pk 3)).bind asI) (M.pure none)))
    (retS (lcF [5] (rngI1 (one (biF lenF (one (pk 2))))) (nmT 5) ((biF anyF (one (lcF [6] (seqI (rd 4)) (nmT 6) (M.pure true) (blO (cmpF neC (seq2 (binF idxE (seqP 6 (pk 5))) (binF idxE (seq2 (binF idxE (seqP 4 (M.pure (.val (.int 0))))) (pk 5))))))))).bind asB) (rd 5)))))
def m_restless : M O := defM 7 b_restless
def b_suns_of : M Out :=
  seqS (setS 3 (callF [none, none] (consA (rd 0) (consA (rd 1) (nilA))) [false, false] m_shaded))
    (retS (lcF [4, 5, 6] (enI (rd 2)) (tupT 2 (consT (nmT 4) (consT (tupT 2 (consT (nmT 5) (consT (nmT 6) (nilT)))) (nilT)))) (cmpF ninE (seqP 5 (pk 3))) (rd 4)))
def m_suns_of : M O := defM 7 b_suns_of
def b_scorched : M Out :=
  seqS (exprS (callF [none, none, none] (consA (rd 0) (consA (rd 1) (consA (rd 2) (nilA)))) [false, false, false] m_need_all))
    (seqS (setS 3 (frzM (makeF 0 (consA (rd 0) (consA (rd 1) (consA (rd 2) (nilA)))) m_Course_init)))
    (seqS (setS 4 (lcF [7] (seqI (rd 2)) (nmT 7) (M.pure true) ((consA (M.pure (.val (.int 0))) (consA (M.pure (.val (.int 0))) (nilA))).bind lstM)))
    (seqS ((rngI1 (one (binF addG (seq2 (fldE 0 (PySem.Str.ofString "tail") (pk 3)) (fldE 0 (PySem.Str.ofString "turn") (pk 3)))))).bind fun ds => forL (nmT 5) ((seqI (callF [none, none, none] (consA (rd 0) (consA (binF idxE (seqP 1 (binF modG (seqP 5 (biF lenF (one (pk 1))))))) (consA (callF [none, none] (consA (chkM 0 (PySem.Str.ofString "at") (rd 3)) (consA (binF addG (seqP 5 (M.pure (.val (.int 1))))) (nilA))) [false, false] m_Course_at) (nilA)))) [false, false, false] m_suns_of)).bind fun ds => forL (nmT 6) (aug2S 4 (rd 6) (biF intF (one (blO (cmpF geC (seqP 5 (fldE 0 (PySem.Str.ofString "tail") (pk 3))))))) 1) ds) ds)
    (retS (lcF [8] (seqI (rd 4)) (nmT 8) (M.pure true) (biF tupF (one (pk 8))))))))
def m_scorched : M O := defM 9 b_scorched
def b_need_told : M Out :=
  seqS (iteM (notB ((biF isiF (two (seqP 2 (M.pure (.val (.ty "tuple")))))).bind asB)) (M.stuck) (M.pure .nx))
    ((enI (rd 2)).bind fun ds => forL (tupT 2 (consT (nmT 3) (consT (nmT 4) (nilT)))) (seqS (setS 5 (blO (andB (cmpF ltC (seqP 3 (M.pure (.val (.int 6))))) (andB ((biF isiF (two (seqP 4 (M.pure (.val (.ty "tuple")))))).bind asB) (cmpF eqC (seq2 (biF lenF (one (pk 4))) (biF lenF (one (pk 1)))))))))
    (iteM (orB (notB ((pk 5).bind asB)) (notB ((biF allF (one (lcF [6] (seqI (rd 4)) (nmT 6) (M.pure true) (callF [none, none] (consA (rd 6) (consA (rd 0) (nilA))) [false, false] m_is_cell)))).bind asB))) (M.stuck) (M.pure .nx))) ds)
def m_need_told : M O := defM 7 b_need_told
def b_suns : M Out :=
  seqS (exprS (callF [none] (consA (rd 0) (nilA)) [false] m_need_floor))
    (seqS (exprS (callF [none, none] (consA (rd 0) (consA (rd 1) (nilA))) [false, false] m_need_folk))
    (seqS (exprS (callF [none, none, none] (consA (rd 0) (consA (rd 1) (consA (rd 2) (nilA)))) [false, false, false] m_need_told))
    (seqS (setS 3 ((consA ((consA (M.pure (.val (.str (PySem.Str.ofString "")))) (consA (rd 1) (nilA))).bind tupM) (nilA)).bind lstM))
    (seqS ((seqI (rd 2)).bind fun ds => forL (nmT 4) (seqS (setS 5 ((nilA).bind lstM))
    (seqS ((seqI (rd 3)).bind fun ds => forL (tupT 2 (consT (nmT 6) (consT (nmT 7) (nilT)))) ((seqI (M.pure (.lst ((srtD ([(PySem.Str.ofString "e"), (PySem.Str.ofString "n"), (PySem.Str.ofString "o"), (PySem.Str.ofString "s"), (PySem.Str.ofString "w")].map D.str)).map O.val)))).bind fun ds => forL (nmT 8) (seqS (setS 9 (callF [none, none, none] (consA (rd 0) (consA (rd 8) (consA (rd 7) (nilA)))) [false, false, false] m_moved))
    (iteM (cmpF eqC (seq2 (callF [none] (consA (rd 9) (nilA)) [false] m_seats_of) (pk 4))) (exprS (appF 5 ((consA (binF addG (seqP 6 (pk 8))) (consA (rd 9) (nilA))).bind tupM))) (M.pure .nx))) ds) ds)
    (setS 3 (rd 5)))) ds)
    (retS (lcF [6, 7] (seqI (rd 3)) (tupT 2 (consT (nmT 6) (consT (nmT 7) (nilT)))) (M.pure true) (rd 6)))))))
def m_suns : M O := defM 10 b_suns
def b_free_cells : M Out :=
  seqS (setS 1 (lcF [2] (seqI (binF idxE (seqP 0 (M.pure (.val (.int 2)))))) (nmT 2) (M.pure true) (sliP 2 (M.pure none) ((M.pure (.val (.int 2))).bind asI))))
    (retS (lcF [3] (seqI (callF [none] (consA (rd 0) (nilA)) [false] m_all_cells)) (nmT 3) (cmpF ninE (seqP 3 (pk 1))) (rd 3)))
def m_free_cells : M O := defM 4 b_free_cells
def b_need_rule : M Out :=
  iteM (orB (notB ((biF isiF (two (seqP 0 (M.pure (.val (.ty "str")))))).bind asB)) (cmpF ninE (seqP 0 (M.pure (.val d_RULES))))) (M.stuck) (M.pure .nx)
def m_need_rule : M O := defM 1 b_need_rule
def b_parting : M Out :=
  seqS (exprS (callF [none] (consA (rd 0) (nilA)) [false] m_need_floor))
    (seqS (exprS (callF [none] (consA (rd 1) (nilA)) [false] m_need_sun))
    (seqS (exprS (callF [none] (consA (rd 2) (nilA)) [false] m_need_rule))
    (seqS (exprS (callF [none] (consA (rd 3) (nilA)) [false] m_need_rule))
    (seqS (setS 4 (M.pure (.val .non)))
    (seqS ((seqI (callF [none] (consA (rd 0) (nilA)) [false] m_free_cells)).bind fun ds => forL (nmT 5) (seqS (par2 6 7 (consA (frzM (makeF 0 (consA (rd 0) (consA (rd 1) (consA ((consA ((consA (rd 5) (consA (rd 2) (nilA))).bind tupM) (nilA)).bind tupM) (nilA)))) m_Course_init)) (consA (frzM (makeF 0 (consA (rd 0) (consA (rd 1) (consA ((consA ((consA (rd 5) (consA (rd 3) (nilA))).bind tupM) (nilA)).bind tupM) (nilA)))) m_Course_init)) (nilA))))
    (seqS (setS 8 (binF addG (seq2 (biF max2F (two (seq2 (fldE 0 (PySem.Str.ofString "tail") (pk 6)) (fldE 0 (PySem.Str.ofString "tail") (pk 7))))) (binF mulG (seq2 (fldE 0 (PySem.Str.ofString "turn") (pk 6)) (fldE 0 (PySem.Str.ofString "turn") (pk 7)))))))
    (seqS (setS 9 (sliF (lcF [10] (rngI1 (one (binF addG (seqP 8 (M.pure (.val (.int 1))))))) (nmT 10) (cmpF neC (seq2 (callF [none] (consA (callF [none, none] (consA (chkM 0 (PySem.Str.ofString "at") (rd 6)) (consA (rd 10) (nilA))) [false, false] m_Course_at) (nilA)) [false] m_seats_of) (callF [none] (consA (callF [none, none] (consA (chkM 0 (PySem.Str.ofString "at") (rd 7)) (consA (rd 10) (nilA))) [false, false] m_Course_at) (nilA)) [false] m_seats_of))) (rd 10)) (M.pure none) ((M.pure (.val (.int 1))).bind asI)))
    (iteM (andB (cmpF neC (seqP 9 ((nilA).bind lstM))) (orB (cmpF isC (seqP 4 (M.pure (.val .non)))) (cmpF ltC (seq2 (binF idxE (seqP 9 (M.pure (.val (.int 0))))) (binF idxE (seqP 4 (M.pure (.val (.int 0))))))))) (setS 4 ((consA (binF idxE (seqP 9 (M.pure (.val (.int 0))))) (consA (rd 5) (nilA))).bind tupM)) (M.pure .nx))))) ds)
    (retS (rd 4)))))))
def m_parting : M O := defM 11 b_parting
def b__law_taken : M Out :=
  seqS (iteM (cmpF gtC (seq2 (binF idxE (seqP 0 (M.pure (.val (.int 3))))) (M.pure (.val (.int 0))))) (seqS (setS 2 (binF modG (seq2 (biF intF (one (binF idxE (seqP 0 (M.pure (.val (.int 3))))))) (pk 1))))
    (seqS (asgS (binF divG (seq2 (binF idxE (seqP 0 (M.pure (.val (.int 3))))) (pk 1))) (subT 0 (M.pure (.val (.int 3)))))
    (retS (rd 2)))) (M.pure .nx))
    (seqS (asgS (binF addG (seq2 (binF idxE (seqP 0 (M.pure (.val (.int 1))))) (M.pure (.val (.int 1))))) (subT 0 (M.pure (.val (.int 1)))))
    (seqS (iteM (cmpF gtC (seq2 (binF idxE (seqP 0 (M.pure (.val (.int 1))))) (biF lenF (one (binF idxE (seqP 0 (M.pure (.val (.int 0))))))))) (seqS (asgS (binF modG (seq2 (biF intF (one (binF addG (seq2 (binF mulG (seq2 (binF idxE (seqP 0 (M.pure (.val (.int 2))))) (M.pure (.val (.int 48271))))) (M.pure (.val (.int 11))))))) (M.pure (.val (.int 2147483647))))) (subT 0 (M.pure (.val (.int 2)))))
    (retS (binF modG (seq2 (biF intF (one (binF divG (seq2 (binF idxE (seqP 0 (M.pure (.val (.int 2))))) (M.pure (.val (.int 7))))))) (pk 1))))) (M.pure .nx))
    (seqS (setS 3 (binF idxE (seq2 (binF idxE (seqP 0 (M.pure (.val (.int 0))))) (binF subG (seq2 (binF idxE (seqP 0 (M.pure (.val (.int 1))))) (M.pure (.val (.int 1))))))))
    (seqS (asgS (binF modG (seq2 (biF intF (one (binF addG (seq2 (binF addG (seq2 (binF mulG (seq2 (binF idxE (seqP 0 (M.pure (.val (.int 2))))) (M.pure (.val (.int 48271))))) (pk 3))) (M.pure (.val (.int 11))))))) (M.pure (.val (.int 2147483647))))) (subT 0 (M.pure (.val (.int 2)))))
    (seqS (iteM (cmpF geC (seqP 3 (binF powG (seq2 (M.pure (.val (.int 10))) (M.pure (.val (.int 18))))))) (asgS (binF divG (seqP 3 (pk 1))) (subT 0 (M.pure (.val (.int 3))))) (M.pure .nx))
    (retS (binF modG (seq2 (biF intF (one (pk 3))) (pk 1)))))))))
def m__law_taken : M O := defM 4 b__law_taken
def b__law_floor : M Out :=
  seqS (par2 2 3 (consA (binF addG (seq2 (M.pure (.val (.int 1))) (callF [some 0, none] (refA 0 (consA (rd 1) (nilA))) [true, false] m__law_taken))) (consA (binF addG (seq2 (M.pure (.val (.int 1))) (callF [some 0, none] (refA 0 (consA (rd 1) (nilA))) [true, false] m__law_taken))) (nilA))))
    (seqS (par2 4 5 (consA ((nilA).bind lstM) (consA ((nilA).bind lstM) (nilA))))
    (seqS ((rngI1 (one (callF [some 0, none] (refA 0 (consA (M.pure (.val (.int 4))) (nilA))) [true, false] m__law_taken))).bind fun ds => forL (nmT 6) (seqS (setS 7 ((consA (callF [some 0, none] (refA 0 (consA (rd 2) (nilA))) [true, false] m__law_taken) (consA (callF [some 0, none] (refA 0 (consA (rd 3) (nilA))) [true, false] m__law_taken) (nilA))).bind tupM))
    (iteM (cmpF ninE (seqP 7 (lcB [8] 4 (nmT 8) (M.pure true) (sliP 8 (M.pure none) ((M.pure (.val (.int 2))).bind asI))))) (exprS (appF 4 (binF addG (seqP 7 ((consA (binF addG (seq2 (M.pure (.val (.int 1))) (callF [some 0, none] (refA 0 (consA (M.pure (.val (.int 4))) (nilA))) [true, false] m__law_taken))) (nilA)).bind tupM))))) (M.pure .nx))) ds)
    (seqS ((rngI1 (one (callF [some 0, none] (refA 0 (consA (binF idxE (seq2 ((consA (M.pure (.val (.int 3))) (consA (M.pure (.val (.int 9))) (nilA))).bind lstM) (callF [some 0, none] (refA 0 (consA (M.pure (.val (.int 2))) (nilA))) [true, false] m__law_taken))) (nilA))) [true, false] m__law_taken))).bind fun ds => forL (nmT 6) (seqS (setS 7 ((consA (callF [some 0, none] (refA 0 (consA (rd 2) (nilA))) [true, false] m__law_taken) (consA (callF [some 0, none] (refA 0 (consA (rd 3) (nilA))) [true, false] m__law_taken) (nilA))).bind tupM))
    (setS 5 (binF addG (seqP 5 (binF mulG (seq2 ((consA (rd 7) (nilA)).bind lstM) (biF intF (one (blO (cmpF ninE (seqP 7 (pk 5)))))))))))) ds)
    (retS ((consA (rd 2) (consA (rd 3) (consA (biF tupF (one (pk 4))) (consA (biF tupF (one (pk 5))) (nilA))))).bind tupM)))))
def m__law_floor : M O := defM 9 b__law_floor
def b__law_sun : M Out :=
  retS (sm1 joinG (M.pure (.val (.str (PySem.Str.ofString "")))) (lcF [1] (rngI1 (one (binF addG (seq2 (M.pure (.val (.int 1))) (callF [some 0, none] (refA 0 (consA (binF idxE (seq2 ((consA (M.pure (.val (.int 2))) (consA (M.pure (.val (.int 6))) (nilA))).bind lstM) (callF [some 0, none] (refA 0 (consA (M.pure (.val (.int 2))) (nilA))) [true, false] m__law_taken))) (nilA))) [true, false] m__law_taken))))) (nmT 1) (M.pure true) (binF idxE (seq2 (M.pure (.val (.str (PySem.Str.ofString "ensow")))) (callF [some 0, none] (refA 0 (consA (M.pure (.val (.int 5))) (nilA))) [true, false] m__law_taken)))))
def m__law_sun : M O := defM 2 b__law_sun
def b__law_folk : M Out :=
  seqS (par2 3 4 (consA ((nilA).bind lstM) (consA (lcF [7] (seqI (binF idxE (seqP 1 (M.pure (.val (.int 2)))))) (nmT 7) (M.pure true) (sliP 7 (M.pure none) ((M.pure (.val (.int 2))).bind asI))) (nilA))))
    (seqS ((rngI1 (one (callF [some 0, none] (refA 0 (consA (binF addG (seqP 2 (M.pure (.val (.int 1))))) (nilA))) [true, false] m__law_taken))).bind fun ds => forL (nmT 5) (seqS (setS 6 ((consA (callF [some 0, none] (refA 0 (consA (binF idxE (seqP 1 (M.pure (.val (.int 0))))) (nilA))) [true, false] m__law_taken) (consA (callF [some 0, none] (refA 0 (consA (binF idxE (seqP 1 (M.pure (.val (.int 1))))) (nilA))) [true, false] m__law_taken) (nilA))).bind tupM))
    (iteM (cmpF ninE (seqP 6 (pk 4))) (seqS (exprS (appF 4 (rd 6)))
    (exprS (appF 3 ((consA (rd 6) (consA (binF idxE (seq2 ((consA (M.pure (.val (.str (PySem.Str.ofString "near")))) (consA (M.pure (.val (.str (PySem.Str.ofString "first")))) (consA (M.pure (.val (.str (PySem.Str.ofString "near")))) (consA (M.pure (.val (.str (PySem.Str.ofString "first")))) (consA (M.pure (.val (.str (PySem.Str.ofString "stay")))) (nilA)))))).bind lstM) (callF [some 0, none] (refA 0 (consA (M.pure (.val (.int 5))) (nilA))) [true, false] m__law_taken))) (nilA))).bind tupM)))) (M.pure .nx))) ds)
    (retS (biF tupF (one (pk 3)))))
def m__law_folk : M O := defM 8 b__law_folk
end G

set_option Elab.async false
set_option linter.all false
set_option maxRecDepth 100000
set_option maxHeartbeats 4000000
namespace G
open PySem PySem.Spec PyProof.Rows L2 PF
def b__law_turned : M Out :=
  seqS (asgS (rd 0) (tupT 4 (consT (nmT 2) (consT (nmT 3) (consT (nmT 4) (consT (nmT 5) (nilT)))))))
    (seqS (iteM (cmpF eqC (seqP 1 (M.pure (.val (.int 0))))) (seqS (setS 6 (biF tupF (one (lcF [7, 8, 9] (seqI (rd 4)) (tupT 3 (consT (nmT 7) (consT (nmT 8) (consT (nmT 9) (nilT))))) (M.pure true) ((consA (rd 7) (consA (binF subG (seq2 (binF subG (seqP 3 (M.pure (.val (.int 1))))) (pk 8))) (consA (rd 9) (nilA)))).bind tupM)))))
    (retS ((consA (rd 2) (consA (rd 3) (consA (rd 6) (consA (biF tupF (one (lcF [7, 8] (seqI (rd 5)) (tupT 2 (consT (nmT 7) (consT (nmT 8) (nilT)))) (M.pure true) ((consA (rd 7) (consA (binF subG (seq2 (binF subG (seqP 3 (M.pure (.val (.int 1))))) (pk 8))) (nilA))).bind tupM)))) (nilA))))).bind tupM))) (M.pure .nx))
    (seqS (setS 6 (biF tupF (one (lcF [7, 8, 9] (seqI (rd 4)) (tupT 3 (consT (nmT 7) (consT (nmT 8) (consT (nmT 9) (nilT))))) (M.pure true) ((consA (rd 8) (consA (rd 7) (consA (rd 9) (nilA)))).bind tupM)))))
    (retS ((consA (rd 3) (consA (rd 2) (consA (rd 6) (consA (biF tupF (one (lcF [7, 8] (seqI (rd 5)) (tupT 2 (consT (nmT 7) (consT (nmT 8) (nilT)))) (M.pure true) ((consA (rd 8) (consA (rd 7) (nilA))).bind tupM)))) (nilA))))).bind tupM))))
def m__law_turned : M O := defM 10 b__law_turned
def b_law : M Out :=
  seqS (setS 1 ((consA (rd 0) (consA (M.pure (.val (.int 0))) (consA (M.pure (.val (.int 0))) (consA (M.pure (.val (.int 0))) (nilA))))).bind lstM))
    (seqS ((rngI1 (one (M.pure (.val (.int 3))))).bind fun ds => forL (nmT 2) (seqS (asgS ((consA (callF [some 1, none] (refA 1 (consA (M.pure (.val (.int 5))) (nilA))) [true, false] m__law_floor) (consA (callF [some 1] (refA 1 (nilA)) [true] m__law_sun) (consA (callF [some 1, none] (refA 1 (consA (binF idxE (seq2 ((consA (M.pure (.val (.int 9))) (consA (binF powG (seq2 (M.pure (.val (.int 10))) (M.pure (.val (.int 18))))) (nilA))).bind lstM) (callF [some 1, none] (refA 1 (consA (M.pure (.val (.int 2))) (nilA))) [true, false] m__law_taken))) (nilA))) [true, false] m__law_taken) (nilA)))).bind tupM) (tupT 3 (consT (nmT 3) (consT (nmT 4) (consT (nmT 5) (nilT))))))
    (seqS (asgS (rd 3) (tupT 4 (consT (nmT 6) (consT (nmT 7) (consT (nmT 8) (consT (nmT 9) (nilT)))))))
    (seqS (par2 10 11 (consA (callF [none, none, none] (consA (rd 3) (consA (rd 4) (consA (rd 5) (nilA)))) [false, false, false] m_shade) (consA ((nilA).bind lstM) (nilA))))
    (seqS ((seqI (rd 8)).bind fun ds => forL (nmT 12) (setS 11 (binF addG (seqP 11 (callF [none, none, none] (consA ((consA (rd 6) (consA (rd 7) (consA ((consA (rd 12) (nilA)).bind tupM) (consA ((nilA).bind tupM) (nilA))))).bind tupM) (consA (rd 4) (consA (rd 5) (nilA)))) [false, false, false] m_shade)))) ds)
    (seqS ((seqI (rd 9)).bind fun ds => forL (nmT 12) (setS 11 (binF addG (seqP 11 (callF [none, none, none] (consA ((consA (rd 6) (consA (rd 7) (consA ((nilA).bind tupM) (consA ((consA (rd 12) (nilA)).bind tupM) (nilA))))).bind tupM) (consA (rd 4) (consA (rd 5) (nilA)))) [false, false, false] m_shade)))) ds)
    (seqS (iteM (cmpF neC (seqP 10 (srtSetF (pk 11)))) (retS (M.pure (.val (.bl false)))) (M.pure .nx))
    (seqS (setS 13 (callF [some 1, none] (refA 1 (consA (binF addG (seq2 (biF lenF (one (pk 9))) (M.pure (.val (.int 1))))) (nilA))) [true, false] m__law_taken))
    (seqS (setS 14 ((consA (rd 6) (consA (rd 7) (consA (sliP 8 (M.pure none) ((M.pure (.val (.int 1))).bind asI)) (consA (sliP 9 (M.pure none) ((pk 13).bind asI)) (nilA))))).bind tupM))
    (seqS (setS 15 ((nilA).bind lstM))
    (seqS ((rngI1 (one (biF lenF (one (pk 4))))).bind fun ds => forL (nmT 16) (setS 15 (binF addG (seqP 15 (lcF [20] (seqI (callF [none, none, none] (consA (rd 3) (consA (rd 4) (consA (rd 16) (nilA)))) [false, false, false] m_shade)) (nmT 20) (cmpF ninE (seqP 20 (callF [none, none, none] (consA (rd 14) (consA (rd 4) (consA (rd 16) (nilA)))) [false, false, false] m_shade))) ((consA (rd 16) (consA (rd 20) (nilA))).bind tupM))))) ds)
    (seqS (iteM (orB (cmpF neC (seq2 (callF [none, none, none] (consA (rd 3) (consA (rd 14) (consA (rd 4) (nilA)))) [false, false, false] m_parted) (binF idxE (seq2 (binF addG (seqP 15 ((consA (M.pure (.val .non)) (nilA)).bind lstM))) (M.pure (.val (.int 0))))))) (cmpF neC (seq2 (callF [none, none, none] (consA (rd 14) (consA (rd 3) (consA (rd 4) (nilA)))) [false, false, false] m_parted) (binF idxE (seq2 (binF addG (seqP 15 ((consA (M.pure (.val .non)) (nilA)).bind lstM))) (M.pure (.val (.int 0)))))))) (retS (M.pure (.val (.bl false)))) (M.pure .nx))
    (seqS (iteM (cmpF isNC (seq2 (callF [none, none, none] (consA (rd 3) (consA (rd 3) (consA (rd 4) (nilA)))) [false, false, false] m_parted) (M.pure (.val .non)))) (retS (M.pure (.val (.bl false)))) (M.pure .nx))
    ((rngI1 (one (M.pure (.val (.int 2))))).bind fun ds => forL (nmT 17) (seqS (setS 18 (dictZipF (consA (M.pure (.val (.str (PySem.Str.ofString "ensow")))) (consA (binF idxE (seq2 ((consA (M.pure (.val (.str (PySem.Str.ofString "wnsoe")))) (consA (M.pure (.val (.str (PySem.Str.ofString "sweon")))) (nilA))).bind lstM) (pk 17))) (nilA)))))
    (seqS (setS 19 (callF [none, none, none] (consA (callF [none, none] (consA (rd 3) (consA (rd 17) (nilA))) [false, false] m__law_turned) (consA (sm1 joinG (M.pure (.val (.str (PySem.Str.ofString "")))) (lcF [21] (seqI (rd 4)) (nmT 21) (M.pure true) (binF idxE (seqP 18 (pk 21))))) (consA (rd 5) (nilA)))) [false, false, false] m_shade))
    (iteM (cmpF neC (seqP 19 (biF srtF (one (lcF [22, 16] (seqI (rd 10)) (tupT 2 (consT (nmT 22) (consT (nmT 16) (nilT)))) (M.pure true) (iteM (cmpF eqC (seqP 17 (M.pure (.val (.int 0))))) ((consA (rd 22) (consA (binF subG (seq2 (binF subG (seqP 7 (M.pure (.val (.int 1))))) (pk 16))) (nilA))).bind tupM) ((consA (rd 16) (consA (rd 22) (nilA))).bind tupM))))))) (retS (M.pure (.val (.bl false)))) (M.pure .nx)))) ds))))))))))))) ds)
    (retS (M.pure (.val (.bl true)))))
def m_law : M O := defM 23 b_law
end G

set_option Elab.async false
set_option linter.all false
set_option maxRecDepth 100000
set_option maxHeartbeats 4000000
namespace G
open PySem PySem.Spec PyProof.Rows L2 PF
theorem hu_room {k : Nat} {A : Around} (h : Room k A) : A.units + 65 < cLine := by have := h.un; omega
def top (i : Nat) : Stmt := PySem.Challenge.pw_shadeseats_k18_whole_shades_of_parts.main.body.getD i (.Pass ⟨0, 0, 0, 0⟩)
def bodyOf : Stmt → List Stmt
  | .ClassDef _ _ _ b _ _ _ _ _ _ _ => b
  | _ => []
def topM (i j : Nat) : Stmt := (bodyOf (top i)).getD j (.Pass ⟨0, 0, 0, 0⟩)
abbrev FnQ (K : PySem.W.Frag) (x q : Str) (st : Stmt) (f : Addr) (fd : FuncData) : Prop := FunD K x q (defArgs st) (defBody st) (defScope st) [] [] f fd
structure Env (P : Program) (w : World) (K : PySem.W.Frag) (mg : Str → Option Value) (ca : Ca) : Prop where
  set : mg (PySem.Str.ofString "set") = none
  dict : mg (PySem.Str.ofString "dict") = none
  zip : mg (PySem.Str.ofString "zip") = none
  int : mg (PySem.Str.ofString "int") = none
  bool : mg (PySem.Str.ofString "bool") = none
  str : mg (PySem.Str.ofString "str") = none
  tuple : mg (PySem.Str.ofString "tuple") = none
  len : mg (PySem.Str.ofString "len") = none
  isinstance : mg (PySem.Str.ofString "isinstance") = none
  sorted : mg (PySem.Str.ofString "sorted") = none
  min : mg (PySem.Str.ofString "min") = none
  range : mg (PySem.Str.ofString "range") = none
  enumerate : mg (PySem.Str.ofString "enumerate") = none
  MOST_SIDE : ∃ t, mg (PySem.Str.ofString "MOST_SIDE") = some (.int 5 t)
  MOST_POSTS : ∃ t, mg (PySem.Str.ofString "MOST_POSTS") = some (.int 4 t)
  MOST_HIGH : ∃ t, mg (PySem.Str.ofString "MOST_HIGH") = some (.int 4 t)
  MOST_AWNINGS : ∃ t, mg (PySem.Str.ofString "MOST_AWNINGS") = some (.int 8 t)
  MOST_BEATS : ∃ t, mg (PySem.Str.ofString "MOST_BEATS") = some (.int 6 t)
  OVERHEAD : ∃ t, mg (PySem.Str.ofString "OVERHEAD") = some (.str (PySem.Str.ofString "o") t)
  STEPS : ∃ u v, mg (PySem.Str.ofString "STEPS") = some u ∧ RelV v u ∧ ∀ F, RepV ⟨P, w, K, ca⟩ F d_STEPS v
  STEPSk : ∃ a es n, mg (PySem.Str.ofString "STEPS") = some (.ref a) ∧ KDict K w a es n ∧ es.toList.map keyS = [(PySem.Str.ofString "e"), (PySem.Str.ofString "n"), (PySem.Str.ofString "o"), (PySem.Str.ofString "s"), (PySem.Str.ofString "w")].map some
  xa0 : ca.xa = none
abbrev x__law_taken : Stmt := top 24
abbrev x__law_floor : Stmt := top 25
abbrev x__law_sun : Stmt := top 26
abbrev x__law_turned : Stmt := top 27
abbrev x_all_cells : Stmt := top 19
abbrev x_is_number : Stmt := top 13
abbrev x_is_cell : Stmt := top 15
abbrev x_is_post : Stmt := top 16
abbrev x_need_floor : Stmt := top 17
abbrev x_need_sun : Stmt := top 18
abbrev x_shaded : Stmt := top 20
abbrev x_parted : Stmt := top 22
abbrev x_need_count : Stmt := top 14
abbrev x_shade : Stmt := top 21
abbrev x_law : Stmt := top 28
end G

set_option Elab.async false
set_option linter.all false
set_option maxRecDepth 100000
set_option maxHeartbeats 0
namespace G
open PySem PySem.Spec PyProof.Rows L2 PF
def dd__law_taken : He.DefD := ⟨((PySem.Str.ofString "_law_taken"), none), (PySem.Str.ofString "_law_taken"), (PySem.Str.ofString "_law_taken"), defArgs x__law_taken, defBody x__law_taken, defScope x__law_taken, [], []⟩
def dd__law_floor : He.DefD := ⟨((PySem.Str.ofString "_law_floor"), none), (PySem.Str.ofString "_law_floor"), (PySem.Str.ofString "_law_floor"), defArgs x__law_floor, defBody x__law_floor, defScope x__law_floor, [], []⟩
def dd__law_sun : He.DefD := ⟨((PySem.Str.ofString "_law_sun"), none), (PySem.Str.ofString "_law_sun"), (PySem.Str.ofString "_law_sun"), defArgs x__law_sun, defBody x__law_sun, defScope x__law_sun, [], []⟩
def dd__law_turned : He.DefD := ⟨((PySem.Str.ofString "_law_turned"), none), (PySem.Str.ofString "_law_turned"), (PySem.Str.ofString "_law_turned"), defArgs x__law_turned, defBody x__law_turned, defScope x__law_turned, [], []⟩
def dd_all_cells : He.DefD := ⟨((PySem.Str.ofString "all_cells"), none), (PySem.Str.ofString "all_cells"), (PySem.Str.ofString "all_cells"), defArgs x_all_cells, defBody x_all_cells, defScope x_all_cells, [], []⟩
def dd_is_number : He.DefD := ⟨((PySem.Str.ofString "is_number"), none), (PySem.Str.ofString "is_number"), (PySem.Str.ofString "is_number"), defArgs x_is_number, defBody x_is_number, defScope x_is_number, [], []⟩
def dd_is_cell : He.DefD := ⟨((PySem.Str.ofString "is_cell"), none), (PySem.Str.ofString "is_cell"), (PySem.Str.ofString "is_cell"), defArgs x_is_cell, defBody x_is_cell, defScope x_is_cell, [], []⟩
def dd_is_post : He.DefD := ⟨((PySem.Str.ofString "is_post"), none), (PySem.Str.ofString "is_post"), (PySem.Str.ofString "is_post"), defArgs x_is_post, defBody x_is_post, defScope x_is_post, [], []⟩
def dd_need_floor : He.DefD := ⟨((PySem.Str.ofString "need_floor"), none), (PySem.Str.ofString "need_floor"), (PySem.Str.ofString "need_floor"), defArgs x_need_floor, defBody x_need_floor, defScope x_need_floor, [], []⟩
def dd_need_sun : He.DefD := ⟨((PySem.Str.ofString "need_sun"), none), (PySem.Str.ofString "need_sun"), (PySem.Str.ofString "need_sun"), defArgs x_need_sun, defBody x_need_sun, defScope x_need_sun, [], []⟩
def dd_shaded : He.DefD := ⟨((PySem.Str.ofString "shaded"), none), (PySem.Str.ofString "shaded"), (PySem.Str.ofString "shaded"), defArgs x_shaded, defBody x_shaded, defScope x_shaded, [], []⟩
def dd_parted : He.DefD := ⟨((PySem.Str.ofString "parted"), none), (PySem.Str.ofString "parted"), (PySem.Str.ofString "parted"), defArgs x_parted, defBody x_parted, defScope x_parted, [], []⟩
def dd_need_count : He.DefD := ⟨((PySem.Str.ofString "need_count"), none), (PySem.Str.ofString "need_count"), (PySem.Str.ofString "need_count"), defArgs x_need_count, defBody x_need_count, defScope x_need_count, [], []⟩
def dd_shade : He.DefD := ⟨((PySem.Str.ofString "shade"), none), (PySem.Str.ofString "shade"), (PySem.Str.ofString "shade"), defArgs x_shade, defBody x_shade, defScope x_shade, [], []⟩
def dd_law : He.DefD := ⟨((PySem.Str.ofString "law"), none), (PySem.Str.ofString "law"), (PySem.Str.ofString "law"), defArgs x_law, defBody x_law, defScope x_law, [], []⟩
def fn : List He.DefD := [dd__law_taken, dd__law_floor, dd__law_sun, dd__law_turned, dd_all_cells, dd_is_number, dd_is_cell, dd_is_post, dd_need_floor, dd_need_sun, dd_shaded, dd_parted, dd_need_count, dd_shade, dd_law]
def atf (K : PySem.W.Frag) : Nat → Addr := fun _ => 0
def fa : List He.Fa := [.glo (PySem.Str.ofString "_law_taken"), .glo (PySem.Str.ofString "_law_floor"), .glo (PySem.Str.ofString "_law_sun"), .glo (PySem.Str.ofString "_law_turned"), .glo (PySem.Str.ofString "all_cells"), .glo (PySem.Str.ofString "is_number"), .glo (PySem.Str.ofString "is_cell"), .glo (PySem.Str.ofString "is_post"), .glo (PySem.Str.ofString "need_floor"), .glo (PySem.Str.ofString "need_sun"), .glo (PySem.Str.ofString "shaded"), .glo (PySem.Str.ofString "parted"), .glo (PySem.Str.ofString "need_count"), .glo (PySem.Str.ofString "shade"), .glo (PySem.Str.ofString "law"), .free (PySem.Str.ofString "set"), .free (PySem.Str.ofString "dict"), .free (PySem.Str.ofString "zip"), .free (PySem.Str.ofString "int"), .free (PySem.Str.ofString "bool"), .free (PySem.Str.ofString "str"), .free (PySem.Str.ofString "tuple"), .free (PySem.Str.ofString "len"), .free (PySem.Str.ofString "isinstance"), .free (PySem.Str.ofString "sorted"), .free (PySem.Str.ofString "min"), .free (PySem.Str.ofString "range"), .free (PySem.Str.ofString "enumerate"), .int (PySem.Str.ofString "MOST_SIDE") 5, .int (PySem.Str.ofString "MOST_POSTS") 4, .int (PySem.Str.ofString "MOST_HIGH") 4, .int (PySem.Str.ofString "MOST_AWNINGS") 8, .int (PySem.Str.ofString "MOST_BEATS") 6, .str (PySem.Str.ofString "OVERHEAD") (PySem.Str.ofString "o"), .glo (PySem.Str.ofString "STEPS")]
def ts : List He.Tab := [(fun K => He.ga K (PySem.Str.ofString "STEPS"), [(PySem.Str.ofString "e"), (PySem.Str.ofString "n"), (PySem.Str.ofString "o"), (PySem.Str.ofString "s"), (PySem.Str.ofString "w")])]
def tf : List He.Defn := []
def ex (K : PySem.W.Frag) : Bool := tabK K (He.ga K (PySem.Str.ofString "STEPS")) [(PySem.Str.ofString "e"), (PySem.Str.ofString "n"), (PySem.Str.ofString "o"), (PySem.Str.ofString "s"), (PySem.Str.ofString "w")] [tI 0 1, tI (-1) 0, tI 0 0, tI 1 0, tI 0 (-1)] && (decide ((tf.map fun p => (He.cT K p).2).Nodup))
abbrev R : PySem.W.OpenRow := PySem.W.OpenLaw.row PySem.Challenge.rw_shadeseats_k18_whole_shades_of_parts
abbrev hk : PySem.W.Hook := PF.hookY 6 fa fn ts tf ex
def ob (s : PySem.W.SharedT) : He.AlX := PF.obsY 6 fa fn ts tf ex (HandSHeadRun.getT s)
theorem ob_eq (s : PySem.W.SharedT) : ob s = hk.obs s.abs := PF.obsY_eq (HandSHeadRun.getT_eq s)
def loose : List Str := [(PySem.Str.ofString "ShadeError"), (PySem.Str.ofString "BadFloor"), (PySem.Str.ofString "BadSun"), (PySem.Str.ofString "BadCount"), (PySem.Str.ofString "MOST_SIDE"), (PySem.Str.ofString "MOST_POSTS"), (PySem.Str.ofString "MOST_HIGH"), (PySem.Str.ofString "MOST_AWNINGS"), (PySem.Str.ofString "MOST_BEATS"), (PySem.Str.ofString "OVERHEAD"), (PySem.Str.ofString "STEPS"), (PySem.Str.ofString "is_number"), (PySem.Str.ofString "need_count"), (PySem.Str.ofString "is_cell"), (PySem.Str.ofString "is_post"), (PySem.Str.ofString "need_floor"), (PySem.Str.ofString "need_sun"), (PySem.Str.ofString "all_cells"), (PySem.Str.ofString "shaded"), (PySem.Str.ofString "shade"), (PySem.Str.ofString "parted"), (PySem.Str.ofString "_law_taken"), (PySem.Str.ofString "_law_floor"), (PySem.Str.ofString "_law_sun"), (PySem.Str.ofString "_law_turned")]
theorem run_f (w : World) : HandSHeadRun.RunEq R (PySem.W.view R.prog [28]) hk ob 20000 loose (w.withFollow "special-get-raises" false) := by intro os; kernel_rfl
theorem run_t (w : World) : HandSHeadRun.RunEq R (PySem.W.view R.prog [28]) hk ob 20000 loose (w.withFollow "special-get-raises" true) := by intro os; kernel_rfl
theorem run (w : World) : HandSHeadRun.RunEq R (PySem.W.view R.prog [28]) hk ob 20000 loose w :=
  PySem.W.byRow2 "special-get-raises" (P := fun w => HandSHeadRun.RunEq R (PySem.W.view R.prog [28]) hk ob 20000 loose w) run_f run_t w
end G

set_option Elab.async false
set_option linter.all false
set_option maxRecDepth 100000
set_option maxHeartbeats 4000000
namespace G
open PySem PySem.Spec PyProof.Rows L2 PF
/-! ### cells in order: plain Lean -/
def cLt (a b : Int × Int) : Bool := decide (a.1 < b.1) || (decide (a.1 = b.1) && decide (a.2 < b.2))
def cLe (a b : Int × Int) : Prop := a.1 < b.1 ∨ (a.1 = b.1 ∧ a.2 ≤ b.2)
theorem cLt_iff {a b : Int × Int} : cLt a b = true ↔ a.1 < b.1 ∨ (a.1 = b.1 ∧ a.2 < b.2) := by unfold cLt; simp
theorem cLt_no {a b : Int × Int} : cLt a b = false ↔ cLe b a := by
  rw [Bool.eq_false_iff, ne_eq, cLt_iff]; unfold cLe; omega
theorem cLe_refl (a : Int × Int) : cLe a a := by unfold cLe; omega
theorem cLe_trans {a b c : Int × Int} (h : cLe a b) (h2 : cLe b c) : cLe a c := by unfold cLe at *; omega
theorem cLe_anti {a b : Int × Int} (h : cLe a b) (h2 : cLe b a) : a = b := by
  obtain ⟨a1, a2⟩ := a
  obtain ⟨b1, b2⟩ := b
  unfold cLe at *
  simp only [Prod.mk.injEq] at *
  omega
theorem cLt_le {a b : Int × Int} (h : cLt a b = true) : cLe a b := by rw [cLt_iff] at h; unfold cLe; omega
theorem cLe_total (a b : Int × Int) : cLe a b ∨ cLe b a := by unfold cLe; omega
def minC (x : Int × Int) (xs : List (Int × Int)) : Int × Int := xs.foldl (fun a y => if cLt y a = true then y else a) x
theorem minC_spec : ∀ (xs : List (Int × Int)) (x : Int × Int), minC x xs ∈ x :: xs ∧ ∀ y ∈ x :: xs, cLe (minC x xs) y
  | [], x => ⟨by simp [minC], fun y h => by simp [minC] at h ⊢; subst h; exact cLe_refl _⟩
  | y :: xs, x => by
    have e : minC x (y :: xs) = minC (if cLt y x = true then y else x) xs := rfl
    rw [e]
    obtain ⟨h1, h2⟩ := minC_spec xs (if cLt y x = true then y else x)
    have h3 := h2 (if cLt y x = true then y else x) (by simp)
    have h4 : cLe (if cLt y x = true then y else x) x ∧ cLe (if cLt y x = true then y else x) y := by
      by_cases c : cLt y x = true
      · rw [if_pos c]; exact ⟨cLt_le c, cLe_refl _⟩
      · rw [if_neg c]; exact ⟨cLe_refl _, cLt_no.mp (by simpa using c)⟩
    refine ⟨?_, ?_⟩
    · rcases List.mem_cons.mp h1 with h | h
      · rw [h]; split <;> simp
      · simp [h]
    · intro z hz
      rw [List.mem_cons, List.mem_cons] at hz
      rcases hz with rfl | rfl | hz
      · exact cLe_trans h3 h4.1
      · exact cLe_trans h3 h4.2
      · exact h2 z (by simp [hz])
/-- the first of an ordered list is the least -/
theorem find_min {l : List (Int × Int)} (hl : l.Pairwise cLe) {p : Int × Int → Bool} {m : Int × Int} (hm : m ∈ l) (pm : p m = true) (hle : ∀ y ∈ l, p y = true → cLe m y) : l.find? p = some m := by
  induction l with
  | nil => cases hm
  | cons a l ih =>
    rw [List.find?_cons]
    rw [List.pairwise_cons] at hl
    by_cases ha : p a = true
    · rw [ha]
      have h1 := hle a (by simp) ha
      rcases List.mem_cons.mp hm with rfl | h
      · rfl
      · rw [cLe_anti h1 (hl.1 m h)]
    · rw [Bool.eq_false_iff.mpr ha]
      simp only
      rcases List.mem_cons.mp hm with rfl | h
      · exact (ha pm).elim
      · exact ih hl.2 h fun y hy => hle y (by simp [hy])
end G

set_option Elab.async false
set_option linter.all false
set_option maxRecDepth 100000
set_option maxHeartbeats 4000000
namespace G
open PySem PySem.Spec PyProof.Rows L2 PF
abbrev vI (i : Int) : Option O := some (.val (.int i))
abbrev vD (d : D) : Option O := some (.val d)
theorem ev_ifL {α : Type} {n : Nat} {a b : M α} {ρ : Sls} {R : α → Sls → Prop} (h : n ≤ lim) (q : Ev a ρ R) : Ev (if n ≤ lim then a else b) ρ R := by rw [if_pos h]; exact q
theorem if_tt {A B : Prop} (h : A) : if (true : Bool) = true then A else B := by simpa using h
theorem if_in {c A B : Prop} [Decidable c] (h : c) (a : A) : if c then A else B := by rw [if_pos h]; exact a
theorem mul_c {i j : Int} (h : -(2 ^ 64) < j ∧ j < 2 ^ 64) : mulG (.val (.int i)) (.val (.int j)) = some (.val (.int (i * j))) := by
  unfold mulG; simp only; rw [if_pos (.inr h)]
theorem mod_c {i j : Int} (h : 0 < j) : modG (.val (.int i)) (.val (.int j)) = some (.val (.int (i % j))) := by
  unfold modG; simp only; rw [if_pos h]
theorem pow_c {i j : Int} (h : 0 ≤ j ∧ j ≤ 1000 ∧ i.natAbs < 2 ^ 64) : powG (.val (.int i)) (.val (.int j)) = some (.val (.int (i ^ j.toNat))) := by
  unfold powG; simp only; rw [if_pos h]
theorem div_c {i j : Int} (h : 0 < j) (h2 : j < 2 ^ 64) : divG (.val (.int i)) (.val (.int j)) = some (.val (.int (i / j))) := by
  unfold divG; simp only; rw [if_pos ⟨h, h2⟩]
local macro_rules | `(tactic| walk_at "e") => `(tactic| (repeat (first | ((with_reducible refine ev_id ?_); first | (with_reducible refine ev_bind.mpr ?_) | (with_reducible refine ev_pure.mpr ?_) | (with_reducible refine ev_seqS.mpr ?_) | (with_reducible refine ev_ite.mpr ?_) | (with_reducible refine ev_ifB.mpr ?_) | (with_reducible refine ev_call.mpr ?_) | (with_reducible refine ev_defM.mpr ?_) | (with_reducible refine ev_lcF.mpr ?_) | (with_reducible refine ev_lc2F.mpr ?_) | (with_reducible refine ev_make.mpr ?_) | (with_reducible refine ev_frz.mpr ?_) | ((with_reducible refine ev_pk.mpr ?_); refine ⟨_, rfl, ?_⟩) | ((with_reducible refine ev_rdE ?_); refine ⟨_, rfl, ?_⟩) | ((with_reducible refine ev_put.mpr ?_); refine ⟨by decide, ?_⟩) | ((with_reducible refine ev_up.mpr ?_); refine ⟨_, _, rfl, rfl, ?_⟩) | (with_reducible refine ev_wp.mpr ?_) | ((with_reducible refine ev_of.mpr ?_); first | refine ⟨_, mul_c (by omega), ?_⟩ | refine ⟨_, mod_c (by omega), ?_⟩ | refine ⟨_, div_c (by omega) (by omega), ?_⟩ | refine ⟨_, pow_c (by decide), ?_⟩ | refine ⟨_, isi_ii _, ?_⟩ | refine ⟨_, isi_ib _, ?_⟩ | refine ⟨_, isi_tt _, ?_⟩ | refine ⟨_, isi_ss _, ?_⟩ | refine ⟨_, rfl, ?_⟩) | ((with_reducible refine ev_ifN ?_ ?_); decide) | ((with_reducible refine ev_ifL ?_ ?_); focus (unfold lim; simp; done)) | ((fail_if_success (with_reducible refine ev_ix2 ?_)); (fail_if_success (with_reducible refine ev_sub2 ?_)); (fail_if_success (with_reducible refine ev_aug2 ?_)); (fail_if_success (with_reducible refine ev_aug2V ?_)); (fail_if_success (with_reducible refine ev_whileK ?_)); (fail_if_success (with_reducible refine ev_of.mpr ?_)); (fail_if_success (with_reducible refine ev_if.mpr ?_)); (fail_if_success (with_reducible refine ev_up.mpr ?_)); (fail_if_success (with_reducible refine ev_rdE ?_)); (fail_if_success (with_reducible refine ev_forK ?_)); first | refine ev_bind.mpr ?_ | refine ev_pure.mpr ?_ | refine ev_put.mpr ⟨by decide, ?_⟩ | refine (ev_rd rfl).mpr ?_ | refine ev_up.mpr ⟨_, _, rfl, rfl, ?_⟩ | refine ev_seqS.mpr ?_ | refine ev_ite.mpr ?_)) | ((with_reducible refine ite_id ?_); first | refine if_tt ?_ | refine if_ff ?_))))
theorem ev_is_number {p lo hi : Int} {R : O → Sls → Prop} (h : R (.val (.bl (decide (lo ≤ p) && decide (p ≤ hi)))) [vI p, vI lo, vI hi]) : Ev m_is_number [vI p, vI lo, vI hi] R := by
  unfold m_is_number b_is_number
  walk_at "e"
  by_cases c : lo ≤ p
  · rw [if_pos (by simpa using c)]
    walk_at "e"
    simpa [c] using h
  · rw [if_neg (by simpa using c)]
    walk_at "e"
    simpa [c] using h
theorem ev_need_count {p lo hi : Int} {R : O → Sls → Prop} (h1 : lo ≤ p) (h2 : p ≤ hi) (h : R (.val .non) [vI p, vI lo, vI hi]) : Ev m_need_count [vI p, vI lo, vI hi] R := by
  unfold m_need_count b_need_count
  walk_at "e"
  refine ⟨_, _, rfl, ev_is_number ?_⟩
  simp only [h1, h2, decide_true, Bool.and_self]
  walk_at "e"
  exact h
/-- the state of the draws -/
abbrev rowO (ns : List Int) (i c k : Int) : O := .lst [.val (.scr ns), .val (.int i), .val (.int c), .val (.int k)]
theorem ite_in {c A B : Prop} [Decidable c] (h1 : c → A) (h2 : ¬ c → B) : if c then A else B := by
  by_cases h : c
  · rw [if_pos h]; exact h1 h
  · rw [if_neg h]; exact h2 h
theorem scr_at {ns : List Int} {j : Int} (h0 : 0 ≤ j) (h1 : j < ns.length) : ∃ n, idxE (.val (.scr ns)) (.val (.int j)) = some (.val (.int n)) := by
  have hj : j.toNat < ns.length := by omega
  refine ⟨ns[j.toNat], ?_⟩
  show (atI ns j).map (fun n => O.val (.int n)) = _
  have e : atI ns j = some ns[j.toNat] := by
    unfold L2.atI ixN
    simp [h0, h1, hj]
  rw [e]; rfl
theorem ev_taken {ns : List Int} {i c k many : Int} {R : O → Sls → Prop} (hi : 0 ≤ i) (hm : 0 < many) (hm2 : many < 2 ^ 64) (hk : 0 ≤ k)
    (h : ∀ v i' c' k', 0 ≤ v → v < many → 0 ≤ i' → 0 ≤ k' → ∀ s2 s3, R (.val (.int v)) [some (rowO ns i' c' k'), vI many, s2, s3]) : Ev m__law_taken [some (rowO ns i c k), vI many] R := by
  have md : ∀ x : Int, 0 ≤ x % many ∧ x % many < many := fun x => ⟨Int.emod_nonneg _ (by omega), Int.emod_lt_of_pos _ hm⟩
  unfold m__law_taken b__law_taken
  walk_at "e"
  refine ite_in (fun c1 => ?_) (fun c1 => ?_)
  · walk_at "e"
    exact h _ _ _ _ (md _).1 (md _).2 hi (Int.ediv_nonneg hk (by omega)) _ _
  · walk_at "e"
    refine ite_in (fun c2 => ?_) (fun c2 => ?_)
    · walk_at "e"
      exact h _ _ _ _ (md _).1 (md _).2 (by omega) hk _ _
    · walk_at "e"
      have c3 : ¬ ((ns.length : Int) < i + 1) := by simpa using c2
      obtain ⟨n, hn⟩ := scr_at (ns := ns) (j := i + 1 - 1) (by omega) (by omega)
      refine ev_of.mpr ⟨_, hn, ?_⟩
      walk_at "e"
      refine ite_in (fun c4 => ?_) (fun c4 => ?_)
      · have c5 : (10 : Int) ^ 18 ≤ n := by simpa using c4
        walk_at "e"
        exact h _ _ _ _ (md _).1 (md _).2 (by omega) (Int.ediv_nonneg (by omega) (by omega)) _ _
      · walk_at "e"
        exact h _ _ _ _ (md _).1 (md _).2 (by omega) hk _ _
/-! ### floors as data -/
abbrev Cell := Int × Int
abbrev Post := Int × Int × Int
def cD (c : Cell) : D := .tup [.int c.1, .int c.2]
def pD (p : Post) : D := .tup [.int p.1, .int p.2.1, .int p.2.2]
structure Flo where
  h : Int
  w : Int
  ps : List Post
  cs : List Cell
def Flo.D (f : Flo) : D := .tup [.int f.h, .int f.w, .tup (f.ps.map pD), .tup (f.cs.map cD)]
structure Flo.Ok (f : Flo) : Prop where
  h0 : 1 ≤ f.h
  h1 : f.h ≤ 5
  w0 : 1 ≤ f.w
  w1 : f.w ≤ 5
  pin : ∀ p ∈ f.ps, 0 ≤ p.1 ∧ p.1 < f.h ∧ 0 ≤ p.2.1 ∧ p.2.1 < f.w ∧ 1 ≤ p.2.2 ∧ p.2.2 ≤ 4
  pnd : (f.ps.map fun p => (p.1, p.2.1)).Nodup
  pn : f.ps.length ≤ 4
  cin : ∀ c ∈ f.cs, 0 ≤ c.1 ∧ c.1 < f.h ∧ 0 ≤ c.2 ∧ c.2 < f.w
  cnd : f.cs.Nodup
  cn : f.cs.length ≤ 25
/-- the cells, row by row -/
def Flo.cells (f : Flo) : List Cell := (List.range (f.h * f.w).toNat).map fun (k : Nat) => ((k : Int) / f.w, (k : Int) % f.w)
def lstC (cs : List Cell) : O := .lst (cs.map fun c => .val (cD c))
inductive Sg where
  | e | n | o | s | w
  deriving DecidableEq
def Sg.S : Sg → Str
  | .e => PySem.Str.ofString "e"
  | .n => PySem.Str.ofString "n"
  | .o => PySem.Str.ofString "o"
  | .s => PySem.Str.ofString "s"
  | .w => PySem.Str.ofString "w"
def Sg.d : Sg → Cell
  | .e => (0, 1)
  | .n => (-1, 0)
  | .o => (0, 0)
  | .s => (1, 0)
  | .w => (0, -1)
/-- the cells that a post's rays would have to come from -/
def beside (g : Sg) (c : Cell) (tall : Int) : List Cell := (List.range tall.toNat).map fun (k : Nat) => (c.1 - (1 + (k : Int)) * g.d.1, c.2 - (1 + (k : Int)) * g.d.2)
def shady (f : Flo) (g : Sg) (c : Cell) : Bool := f.cs.contains (c.1 - g.d.1, c.2 - g.d.2) || (decide (g ≠ .o) && f.ps.any fun p => (beside g c p.2.2).contains (p.1, p.2.1))
theorem idx_dirs (g : Sg) : idxE (.dct false (List.map D.str [PySem.Str.ofString "n", PySem.Str.ofString "s", PySem.Str.ofString "e", PySem.Str.ofString "w", PySem.Str.ofString "o"])
    [.val (.tup (fzs [.val (.int (0 - 1)), .val (.int 0)])), .val (.tup (fzs [.val (.int 1), .val (.int 0)])), .val (.tup (fzs [.val (.int 0), .val (.int 1)])), .val (.tup (fzs [.val (.int 0), .val (.int (0 - 1))])), .val (.tup (fzs [.val (.int 0), .val (.int 0)]))]) (.val (.str g.S)) = some (.val (cD g.d)) := by
  cases g <;> rfl
theorem cD_ok (c : Cell) (n : Nat) : okD (n + 1) (cD c) = true := by simp [cD, okD]
theorem cD_eqv (a b : Cell) : (cD a).eqv (cD b) = decide (a = b) := by
  obtain ⟨a1, a2⟩ := a
  obtain ⟨b1, b2⟩ := b
  simp [cD, D.eqv, D.eqvs, Bool.beq_eq_decide_eq]
theorem cs_ok (cs : List Cell) (n : Nat) : (cs.map cD).all (okD (n + 1)) = true := by
  rw [List.all_eq_true]
  intro x hx
  obtain ⟨c, _, rfl⟩ := List.mem_map.mp hx
  exact cD_ok c n
theorem any_cell (c : Cell) : ∀ cs : List Cell, ((cs.map cD).any fun z => z.eqv (cD c)) = cs.contains c
  | [] => rfl
  | a :: cs => by
    rw [List.map_cons, List.any_cons, any_cell c cs, cD_eqv, List.contains_cons]
    congr 1
    by_cases h : a = c
    · subst h; simp
    · simp [h, Ne.symm h]
theorem fzs_cells (cs : List Cell) : fzs (cs.map fun c => O.val (cD c)) = cs.map cD := by
  induction cs with
  | nil => rfl
  | cons c cs ih => rw [List.map_cons, fzs, fz, ih, List.map_cons]
theorem in_cells (c : Cell) (cs : List Cell) : inE (.val (cD c)) (.val (.tup (cs.map cD))) = some (cs.contains c) := by
  have e : inE (.val (cD c)) (.val (.tup (cs.map cD))) = inC (.val (cD c)) (.val (.tup (cs.map cD))) := rfl
  have e2 : inC (.val (cD c)) (.val (.tup (cs.map cD))) = if okD 16 (cD c) && okD 16 (.tup (cs.map cD)) then some ((cs.map cD).any fun z => z.eqv (cD c)) else none := rfl
  rw [e, e2, if_pos (by rw [cD_ok c 15]; simpa [okD] using cs_ok cs 14), any_cell]
theorem in_cellsL (c : Cell) (cs : List Cell) : inE (.val (cD c)) (lstC cs) = some (cs.contains c) := by
  have e : inE (.val (cD c)) (lstC cs) = inC (.val (cD c)) (lstC cs) := rfl
  have e2 : inC (.val (cD c)) (lstC cs) = if okD 16 (cD c) && okD 16 (.lst (fzs (cs.map fun c => O.val (cD c)))) then some ((fzs (cs.map fun c => O.val (cD c))).any fun z => z.eqv (cD c)) else none := rfl
  rw [e, e2, fzs_cells, if_pos (by rw [cD_ok c 15]; simpa [okD] using cs_ok cs 14), any_cell]
end G

set_option Elab.async false
set_option linter.all false
set_option maxRecDepth 100000
set_option maxHeartbeats 4000000
namespace G
open PySem PySem.Spec PyProof.Rows L2 PF
theorem filter_all {α : Type} (l : List α) : l.filter (fun _ => true) = l := List.filter_eq_self.mpr (by simp)
def cellsOf (h w : Int) : List Cell := (List.range (h * w).toNat).map fun (k : Nat) => ((k : Int) / w, (k : Int) % w)
theorem side {h : Int} (h0 : 1 ≤ h) (h1 : h ≤ 5) : h ∈ [(1 : Int), 2, 3, 4, 5] := by
  simp only [List.mem_cons, List.not_mem_nil, or_false]; omega
theorem cells_flat0 : ∀ h ∈ [(1 : Int), 2, 3, 4, 5], ∀ w ∈ [(1 : Int), 2, 3, 4, 5], cellsOf h w = (List.range h.toNat).flatMap fun (r : Nat) => (List.range w.toNat).map fun (c : Nat) => ((r : Int), (c : Int)) := by decide
theorem cells_flat {f : Flo} (ok : f.Ok) : f.cells = (List.range f.h.toNat).flatMap fun (r : Nat) => (List.range f.w.toNat).map fun (c : Nat) => ((r : Int), (c : Int)) :=
  cells_flat0 f.h (side ok.h0 ok.h1) f.w (side ok.w0 ok.w1)
theorem cells_nodup {f : Flo} (ok : f.Ok) : f.cells.Nodup :=
  (show ∀ h ∈ [(1 : Int), 2, 3, 4, 5], ∀ w ∈ [(1 : Int), 2, 3, 4, 5], (cellsOf h w).Nodup by decide) f.h (side ok.h0 ok.h1) f.w (side ok.w0 ok.w1)
theorem cells_len {f : Flo} (ok : f.Ok) : f.cells.length ≤ 25 :=
  (show ∀ h ∈ [(1 : Int), 2, 3, 4, 5], ∀ w ∈ [(1 : Int), 2, 3, 4, 5], (cellsOf h w).length ≤ 25 by decide) f.h (side ok.h0 ok.h1) f.w (side ok.w0 ok.w1)
theorem cells_sortedB {f : Flo} (ok : f.Ok) : f.cells.Pairwise fun a b => a.1 < b.1 ∨ (a.1 = b.1 ∧ a.2 ≤ b.2) :=
  (show ∀ h ∈ [(1 : Int), 2, 3, 4, 5], ∀ w ∈ [(1 : Int), 2, 3, 4, 5], (cellsOf h w).Pairwise fun a b => a.1 < b.1 ∨ (a.1 = b.1 ∧ a.2 ≤ b.2) by decide) f.h (side ok.h0 ok.h1) f.w (side ok.w0 ok.w1)
theorem mem_cells {f : Flo} (ok : f.Ok) (c : Cell) : c ∈ f.cells ↔ 0 ≤ c.1 ∧ c.1 < f.h ∧ 0 ≤ c.2 ∧ c.2 < f.w := by
  rw [cells_flat ok]
  have a := ok.h0; have b := ok.w0
  simp only [List.mem_flatMap, List.mem_map, List.mem_range]
  constructor
  · rintro ⟨r, hr, k, hk, rfl⟩
    simp only
    omega
  · rintro ⟨h1, h2, h3, h4⟩
    refine ⟨c.1.toNat, by omega, c.2.toNat, by omega, ?_⟩
    obtain ⟨x, y⟩ := c
    simp only at h1 h2 h3 h4 ⊢
    rw [Int.toNat_of_nonneg h1, Int.toNat_of_nonneg h3]
local macro_rules | `(tactic| walk_at "e") => `(tactic| (repeat (first | ((with_reducible refine ev_id ?_); first | (with_reducible refine ev_bind.mpr ?_) | (with_reducible refine ev_pure.mpr ?_) | (with_reducible refine ev_seqS.mpr ?_) | (with_reducible refine ev_ite.mpr ?_) | (with_reducible refine ev_ifB.mpr ?_) | (with_reducible refine ev_call.mpr ?_) | (with_reducible refine ev_defM.mpr ?_) | (with_reducible refine ev_lcF.mpr ?_) | (with_reducible refine ev_lc2F.mpr ?_) | (with_reducible refine ev_make.mpr ?_) | (with_reducible refine ev_frz.mpr ?_) | ((with_reducible refine ev_pk.mpr ?_); refine ⟨_, rfl, ?_⟩) | ((with_reducible refine ev_rdE ?_); refine ⟨_, rfl, ?_⟩) | ((with_reducible refine ev_put.mpr ?_); refine ⟨by decide, ?_⟩) | ((with_reducible refine ev_up.mpr ?_); refine ⟨_, _, rfl, rfl, ?_⟩) | (with_reducible refine ev_wp.mpr ?_) | ((with_reducible refine ev_of.mpr ?_); first | refine ⟨_, mul_c (by omega), ?_⟩ | refine ⟨_, mod_c (by omega), ?_⟩ | refine ⟨_, div_c (by omega) (by omega), ?_⟩ | refine ⟨_, pow_c (by decide), ?_⟩ | refine ⟨_, isi_ii _, ?_⟩ | refine ⟨_, isi_ib _, ?_⟩ | refine ⟨_, isi_tt _, ?_⟩ | refine ⟨_, isi_ss _, ?_⟩ | refine ⟨_, rfl, ?_⟩) | ((with_reducible refine ev_ifN ?_ ?_); decide) | ((with_reducible refine ev_ifL ?_ ?_); focus (unfold lim; simp; done)) | ((fail_if_success (with_reducible refine ev_ix2 ?_)); (fail_if_success (with_reducible refine ev_sub2 ?_)); (fail_if_success (with_reducible refine ev_aug2 ?_)); (fail_if_success (with_reducible refine ev_aug2V ?_)); (fail_if_success (with_reducible refine ev_whileK ?_)); (fail_if_success (with_reducible refine ev_of.mpr ?_)); (fail_if_success (with_reducible refine ev_if.mpr ?_)); (fail_if_success (with_reducible refine ev_up.mpr ?_)); (fail_if_success (with_reducible refine ev_rdE ?_)); (fail_if_success (with_reducible refine ev_forK ?_)); first | refine ev_bind.mpr ?_ | refine ev_pure.mpr ?_ | refine ev_put.mpr ⟨by decide, ?_⟩ | refine (ev_rd rfl).mpr ?_ | refine ev_up.mpr ⟨_, _, rfl, rfl, ?_⟩ | refine ev_seqS.mpr ?_ | refine ev_ite.mpr ?_)) | ((with_reducible refine ite_id ?_); first | refine if_tt ?_ | refine if_ff ?_))))
theorem ev_all_cells {f : Flo} (ok : f.Ok) {R : O → Sls → Prop} (h : R (lstC f.cells) [vD f.D, none, none]) : Ev m_all_cells [vD f.D] R := by
  unfold m_all_cells b_all_cells
  have a := ok.h0; have b := ok.h1; have c := ok.w0; have d := ok.w1
  walk_at "e"
  refine ev_if.mpr (if_in (by omega) ?_)
  walk_at "e"
  refine lc2L_map (m := 5) (e := fun d => match d with | .int r => (List.range f.w.toNat).map (fun (k : Nat) => O.val (cD (r, (k : Int)))) | _ => []) (fun x hx => ?_) (by unfold rangeD lim; simp; omega) ?_
  · unfold rangeD at hx
    obtain ⟨k, hk, rfl⟩ := List.mem_map.mp hx
    walk_at "e"
    refine ⟨rfl, ?_⟩
    walk_at "e"
    refine ev_if.mpr (if_in (by omega) ?_)
    walk_at "e"
    refine ⟨by unfold rangeD; simp; omega, ?_⟩
    refine lcL_map (p := fun _ => true) (e := fun d => match d with | .int j => .val (cD (0 + k, j)) | _ => .val .non) (fun y hy => ?_) ?_
    · unfold rangeD at hy
      obtain ⟨j, hj, rfl⟩ := List.mem_map.mp hy
      walk_at "e"
      refine ⟨rfl, fun _ => ?_, fun h => nomatch h⟩
      walk_at "e"
      exact ⟨by simp [cD, fz, fzs], rfl⟩
    · refine ⟨?_, ?_, rfl⟩
      · rw [filter_all]
        unfold rangeD
        rw [List.map_map]
        refine List.map_congr_left fun j _ => ?_
        simp
      · rw [filter_all]; unfold rangeD; simp; omega
  · walk_at "e"
    have e : lstC f.cells = O.lst ((rangeD 0 f.h.toNat).flatMap fun d => match d with | .int r => (List.range f.w.toNat).map (fun (k : Nat) => O.val (cD (r, (k : Int)))) | _ => []) := by
      unfold lstC
      rw [cells_flat ok, List.map_flatMap]
      unfold rangeD
      rw [List.flatMap_map]
      simp only [List.map_map, Int.zero_add]
      rfl
    rw [e] at h
    exact h
end G

set_option Elab.async false
set_option linter.all false
set_option maxRecDepth 100000
set_option maxHeartbeats 4000000
namespace G
open PySem PySem.Spec PyProof.Rows L2 PF
/-! ### dicts of cells -/
def insC (cs : List Cell) (c : Cell) : List Cell := if cs.contains c then cs else cs ++ [c]
theorem mem_insC {cs : List Cell} {c x : Cell} : x ∈ insC cs c ↔ x ∈ cs ∨ x = c := by
  unfold insC
  split
  · rename_i h
    have h : c ∈ cs := by simpa using h
    constructor
    · exact .inl
    · rintro (h' | rfl)
      · exact h'
      · exact h
  · simp
theorem insC_length {cs : List Cell} {c : Cell} : (insC cs c).length ≤ cs.length + 1 := by
  unfold insC
  split <;> simp
def dictC (cs : List Cell) : O := .dct true (cs.map cD) (cs.map fun _ => .val (.bl true))
def dictV (cs : List Cell) : D := .dct true (cs.map cD) (cs.map fun _ => .bl true)
theorem dputK_c (c : Cell) : ∀ cs : List Cell, dputK (cs.map cD) (cD c) = (insC cs c).map cD
  | [] => rfl
  | a :: cs => by
    rw [List.map_cons, dputK, cD_eqv, dputK_c c cs]
    unfold insC
    rw [List.contains_cons]
    by_cases h : a = c
    · subst h; simp
    · have h' : (c == a) = false := by simpa using Ne.symm h
      simp only [decide_eq_true_eq, h, if_false, h', Bool.false_or]
      by_cases h2 : cs.contains c = true
      · rw [if_pos h2, if_pos h2, List.map_cons]
      · rw [if_neg h2, if_neg h2, List.cons_append, List.map_cons]
theorem dputV_c (c : Cell) : ∀ cs : List Cell, dputV (cs.map cD) (cs.map fun _ => O.val (.bl true)) (cD c) (.val (.bl true)) = (insC cs c).map fun _ => O.val (.bl true)
  | [] => rfl
  | a :: cs => by
    rw [List.map_cons, List.map_cons, dputV, cD_eqv, dputV_c c cs]
    unfold insC
    rw [List.contains_cons]
    by_cases h : a = c
    · subst h; simp
    · have h' : (c == a) = false := by simpa using Ne.symm h
      simp only [decide_eq_true_eq, h, if_false, h', Bool.false_or]
      by_cases h2 : cs.contains c = true
      · rw [if_pos h2, if_pos h2, List.map_cons]
      · rw [if_neg h2, if_neg h2, List.cons_append, List.map_cons]
theorem cD_nk (c : Cell) : nkOk (cD c) = true := by rfl
theorem sto_c {cs : List Cell} {c : Cell} (h : cs.length ≤ lim) : stoG (dictC cs) (.val (cD c)) (.val (.bl true)) = some (dictC (insC cs c)) := by
  unfold dictC stoG
  simp only
  rw [if_pos ⟨cD_nk c, by simpa using h, by simp⟩, dputK_c, dputV_c]
theorem in_dictC (c : Cell) (cs : List Cell) : inE (.val (cD c)) (dictC cs) = some (cs.contains c) := by
  unfold inE dictC O.asD
  simp only
  rw [fz, if_pos (cD_nk c), any_cell]
theorem in_dictV (c : Cell) (cs : List Cell) : inE (.val (cD c)) (.val (dictV cs)) = some (cs.contains c) := by
  unfold inE dictV O.asD
  simp only
  rw [fz, if_pos (cD_nk c), any_cell]
/-- the cells on which a post's shadow falls, by the program -/
def rays (g : Sg) (p : Post) : List Cell := (List.range (if g ≠ .o then p.2.2.toNat else 0)).map fun (k : Nat) => (p.1 + g.d.1 * (1 + (k : Int)), p.2.1 + g.d.2 * (1 + (k : Int)))
theorem shady_iff {f : Flo} {g : Sg} {c : Cell} : shady f g c = true ↔ (∃ p ∈ f.ps, c ∈ rays g p) ∨ ∃ a ∈ f.cs, c = (a.1 + g.d.1, a.2 + g.d.2) := by
  unfold shady
  rw [Bool.or_eq_true, Or.comm]
  refine or_congr ?_ ?_
  · rw [Bool.and_eq_true, decide_eq_true_eq, List.any_eq_true]
    constructor
    · rintro ⟨go, p, hp, h⟩
      refine ⟨p, hp, ?_⟩
      unfold beside at h
      rw [List.contains_iff_mem] at h
      obtain ⟨k, hk, e⟩ := List.mem_map.mp h
      unfold rays
      rw [if_pos go]
      refine List.mem_map.mpr ⟨k, hk, ?_⟩
      obtain ⟨c1, c2⟩ := c
      simp only [Prod.mk.injEq] at e ⊢
      rw [Int.mul_comm g.d.1, Int.mul_comm g.d.2]
      omega
    · rintro ⟨p, hp, h⟩
      unfold rays at h
      by_cases go : g = .o
      · simp [go] at h
      · refine ⟨go, p, hp, ?_⟩
        rw [if_pos go] at h
        obtain ⟨k, hk, e⟩ := List.mem_map.mp h
        unfold beside
        rw [List.contains_iff_mem]
        refine List.mem_map.mpr ⟨k, hk, ?_⟩
        subst e
        obtain ⟨p1, p2, p3⟩ := p
        simp only [Prod.mk.injEq]
        rw [Int.mul_comm g.d.1, Int.mul_comm g.d.2]
        omega
  · rw [List.contains_iff_mem]
    constructor
    · exact fun h => ⟨_, h, by obtain ⟨c1, c2⟩ := c; simp only [Prod.mk.injEq]; omega⟩
    · rintro ⟨a, ha, rfl⟩
      obtain ⟨a1, a2⟩ := a
      simp only
      have e1 : a1 + g.d.1 - g.d.1 = a1 := by omega
      have e2 : a2 + g.d.2 - g.d.2 = a2 := by omega
      rw [e1, e2]; exact ha
theorem idx_steps (g : Sg) : idxE (.val d_STEPS) (.val (.str g.S)) = some (.val (cD g.d)) := by cases g <;> rfl
theorem sg_o (g : Sg) : neC (.val (.str g.S)) (.val (.str (PySem.Str.ofString "o"))) = some (decide (g ≠ .o)) := by cases g <;> rfl
theorem ev_forN {h : O → M Unit} {fb : M Out} {ρ : Sls} {R : Out → Sls → Prop} {ds : List D} (q : R .nx ρ) (e : ds = [] := by rfl) : Ev (forL h fb ds) ρ R := by
  subst e
  rw [forL, ev_pure]; exact q
theorem ev_dcF {own : List Nat} {fi : M (List D)} {h : O → M Unit} {ft : M Bool} {fk fv : M O} {ρ : Sls} {R : O → Sls → Prop} (q : Ev fi ρ fun ds ρ1 => Ev (dcL own h ft fk fv [] [] ds) (wipeR ρ1 own) R) : Ev (dcF own fi h ft fk fv) ρ R := by
  unfold dcF
  rw [ev_bind]
  refine q.mono fun ds ρ1 r => ?_
  rw [ev_noX, ev_bind, ev_wp]
  exact r
theorem dcL_cells {own : List Nat} {h : O → M Unit} {ft : M Bool} {fk fv : M O} {ρ0 : Sls} {p : Cell → Bool} : ∀ {rest acc : List Cell} {R : O → Sls → Prop}
    (_ : ∀ c ∈ rest, Ev (h (.val (cD c))) ρ0 fun _ ρ1 => Ev ft ρ1 fun b ρ2 => b = p c ∧ (p c = true → Ev fk ρ2 fun k ρ3 => k = .val (cD c) ∧ Ev fv ρ3 fun v ρ4 => v = .val (.bl true) ∧ wipeR ρ4 own = ρ0) ∧ (p c = false → wipeR ρ2 own = ρ0))
    (_ : (acc ++ rest).Nodup) (_ : acc.length + rest.length ≤ lim) (_ : R (dictC (acc ++ rest.filter p)) ρ0), Ev (dcL own h ft fk fv (acc.map cD) (acc.map fun _ => .val (.bl true)) (rest.map cD)) ρ0 R
  | [], acc, R, hs, nd, hl, hR => by
    rw [List.map_nil, dcL, ev_pure]
    simpa [dictC] using hR
  | c :: rest, acc, R, hs, nd, hl, hR => by
    rw [List.map_cons, dcL, ev_bind]
    rw [List.length_cons] at hl
    refine (hs c (by simp)).mono fun _ ρ1 q => ?_
    rw [ev_bind]
    refine q.mono fun b ρ2 ⟨e1, e2, e3⟩ => ?_
    subst e1
    cases hp : p c with
    | true =>
      simp only [if_true]
      rw [ev_bind]
      refine (e2 hp).mono fun k ρ3 ⟨e4, q⟩ => ?_
      subst e4
      rw [ev_bind]
      refine q.mono fun v ρ4 ⟨e5, e6⟩ => ?_
      subst e5
      simp only
      rw [if_pos ⟨cD_nk c, by rw [List.length_map]; omega, by simp⟩, ev_bind, ev_wp, e6, dputK_c, dputV_c]
      have nc : c ∉ acc := fun hc => by
        rw [List.nodup_append] at nd
        exact nd.2.2 c hc c (by simp) rfl
      have e7 : insC acc c = acc ++ [c] := by
        unfold insC
        rw [if_neg (by simpa using nc)]
      rw [e7]
      refine dcL_cells (p := p) (fun x hx => hs x (by simp [hx])) (by simpa using nd) (by simp; omega) ?_
      rw [List.filter_cons_of_pos hp] at hR
      simpa using hR
    | false =>
      simp only [Bool.false_eq_true, if_false]
      rw [ev_bind, ev_wp, e3 hp]
      refine dcL_cells (p := p) (fun x hx => hs x (by simp [hx])) ?_ (by omega) ?_
      · refine nd.sublist ?_
        exact List.Sublist.append_left (List.sublist_cons_self c rest) acc
      · rw [List.filter_cons_of_neg (by simp [hp])] at hR
        exact hR
theorem valsO_map : ∀ ds : List D, valsO (ds.map O.val) = some ds
  | [] => rfl
  | d :: ds => by rw [List.map_cons, valsO, valsO_map ds]; rfl
theorem lstC_eq (cs : List Cell) : lstC cs = .lst ((cs.map cD).map O.val) := by unfold lstC; rw [List.map_map]; rfl
theorem dsL_cells (cs : List Cell) : (lstC cs).dsL = some (cs.map cD) := by rw [lstC_eq]; exact valsO_map _
theorem its_cells (cs : List Cell) : (lstC cs).its = some (cs.map cD) := by rw [lstC_eq]; exact valsO_map _
theorem sg_not_o {g : Sg} : ((fun x => !x) (g.S == PySem.Str.ofString "o") = true) ↔ g ≠ .o := by cases g <;> decide
local macro_rules | `(tactic| walk_at "e") => `(tactic| (repeat (first | ((with_reducible refine ev_id ?_); first | (with_reducible refine ev_bind.mpr ?_) | (with_reducible refine ev_pure.mpr ?_) | (with_reducible refine ev_seqS.mpr ?_) | (with_reducible refine ev_ite.mpr ?_) | (with_reducible refine ev_ifB.mpr ?_) | (with_reducible refine ev_call.mpr ?_) | (with_reducible refine ev_defM.mpr ?_) | (with_reducible refine ev_lcF.mpr ?_) | (with_reducible refine ev_lc2F.mpr ?_) | (with_reducible refine ev_make.mpr ?_) | (with_reducible refine ev_frz.mpr ?_) | ((with_reducible refine ev_pk.mpr ?_); refine ⟨_, rfl, ?_⟩) | ((with_reducible refine ev_rdE ?_); refine ⟨_, rfl, ?_⟩) | ((with_reducible refine ev_put.mpr ?_); refine ⟨by decide, ?_⟩) | ((with_reducible refine ev_up.mpr ?_); refine ⟨_, _, rfl, rfl, ?_⟩) | (with_reducible refine ev_wp.mpr ?_) | ((with_reducible refine ev_of.mpr ?_); first | refine ⟨_, mul_c (by omega), ?_⟩ | refine ⟨_, mod_c (by omega), ?_⟩ | refine ⟨_, div_c (by omega) (by omega), ?_⟩ | refine ⟨_, pow_c (by decide), ?_⟩ | refine ⟨_, isi_ii _, ?_⟩ | refine ⟨_, isi_ib _, ?_⟩ | refine ⟨_, isi_tt _, ?_⟩ | refine ⟨_, isi_ss _, ?_⟩ | refine ⟨_, rfl, ?_⟩) | ((with_reducible refine ev_ifN ?_ ?_); decide) | ((with_reducible refine ev_ifL ?_ ?_); focus (unfold lim; simp; done)) | ((fail_if_success (with_reducible refine ev_ix2 ?_)); (fail_if_success (with_reducible refine ev_sub2 ?_)); (fail_if_success (with_reducible refine ev_aug2 ?_)); (fail_if_success (with_reducible refine ev_aug2V ?_)); (fail_if_success (with_reducible refine ev_whileK ?_)); (fail_if_success (with_reducible refine ev_of.mpr ?_)); (fail_if_success (with_reducible refine ev_if.mpr ?_)); (fail_if_success (with_reducible refine ev_up.mpr ?_)); (fail_if_success (with_reducible refine ev_rdE ?_)); (fail_if_success (with_reducible refine ev_forK ?_)); first | refine ev_bind.mpr ?_ | refine ev_pure.mpr ?_ | refine ev_put.mpr ⟨by decide, ?_⟩ | refine (ev_rd rfl).mpr ?_ | refine ev_up.mpr ⟨_, _, rfl, rfl, ?_⟩ | refine ev_seqS.mpr ?_ | refine ev_ite.mpr ?_)) | ((with_reducible refine ite_id ?_); first | refine if_tt ?_ | refine if_ff ?_))))
theorem ev_shaded {f : Flo} (ok : f.Ok) (g : Sg) {R : O → Sls → Prop} (h : ∀ ρ, R (dictC (f.cells.filter (shady f g))) (vD f.D :: some (.val (.str g.S)) :: ρ)) : Ev m_shaded [vD f.D, some (.val (.str g.S))] R := by
  unfold m_shaded b_shaded
  have gd : -1 ≤ g.d.1 ∧ g.d.1 ≤ 1 ∧ -1 ≤ g.d.2 ∧ g.d.2 ≤ 1 := by cases g <;> decide
  walk_at "e"
  refine ev_of.mpr ⟨_, idx_steps g, ?_⟩
  walk_at "e"
  have pn := ok.pn
  have cn := ok.cn
  refine forL_inv (fun ds ρ => ∃ (rest : List Post) (cs : List Cell) (s5 s6 s7 s8 : Option O), ds = rest.map pD ∧ (∀ p ∈ rest, p ∈ f.ps) ∧ ρ = [vD f.D, some (.val (.str g.S)), vI g.d.1, vI g.d.2, some (dictC cs), s5, s6, s7, s8, none] ∧
    (∀ x, (x ∈ cs ∨ ∃ p ∈ rest, x ∈ rays g p) ↔ ∃ p ∈ f.ps, x ∈ rays g p) ∧ cs.length + 4 * rest.length ≤ 16) ?_ ?_ _ _ ⟨f.ps, [], none, none, none, none, rfl, fun _ h => h, rfl, fun x => by simp, by simp; omega⟩
  · rintro d ds ρ ⟨rest, cs, s5, s6, s7, s8, e1, hin, rfl, e2, e3⟩
    cases rest with
    | nil => cases e1
    | cons p rest =>
      rw [List.map_cons] at e1
      injection e1 with e1 e1'
      subst e1 e1'
      have pin := ok.pin p (hin p (by simp))
      rw [List.length_cons] at e3
      walk_at "e"
      refine ite_in (fun go => ?_) (fun go => ?_)
      · rw [sg_not_o] at go
        walk_at "e"
        refine ev_if.mpr (if_in (by omega) ?_)
        walk_at "e"
        have hn : (p.2.2 + 1 - 1).toNat = p.2.2.toNat := by congr 1; omega
        rw [hn]
        refine forL_inv (fun ds ρ => ∃ (ks : List Nat) (cs' : List Cell) (s8 : Option O), ds = ks.map (fun (k : Nat) => D.int (1 + (k : Int))) ∧ (∀ k ∈ ks, k < 4) ∧ ρ = [vD f.D, some (.val (.str g.S)), vI g.d.1, vI g.d.2, some (dictC cs'), vI p.1, vI p.2.1, vI p.2.2, s8, none] ∧
          (∀ x, (x ∈ cs' ∨ ∃ k ∈ ks, x = (p.1 + g.d.1 * (1 + (k : Int)), p.2.1 + g.d.2 * (1 + (k : Int)))) ↔ (x ∈ cs ∨ x ∈ rays g p)) ∧ cs'.length + ks.length ≤ cs.length + 4) ?_ ?_ _ _ ⟨List.range p.2.2.toNat, cs, s8, rfl, fun k hk => (by have := List.mem_range.mp hk; omega), rfl, fun x => ?_, by rw [List.length_range]; omega⟩
        · rintro d ds ρ ⟨ks, cs', s8, e4, hk4, rfl, e5, e6⟩
          cases ks with
          | nil => cases e4
          | cons k ks =>
            rw [List.map_cons] at e4
            injection e4 with e4 e4'
            subst e4 e4'
            rw [List.length_cons] at e6
            have hk := hk4 k (by simp)
            walk_at "e"
            refine ev_up.mpr ⟨_, _, rfl, sto_c (cs := cs') (c := (p.1 + g.d.1 * (1 + (k : Int)), p.2.1 + g.d.2 * (1 + (k : Int)))) (by unfold lim; omega), ?_⟩
            walk_at "e"
            refine ⟨ks, _, _, rfl, fun k hk => hk4 k (by simp [hk]), rfl, fun x => ?_, ?_⟩
            · rw [← e5 x, mem_insC]
              simp only [List.mem_cons, exists_eq_or_imp]
              rw [or_assoc]
            · have := insC_length (cs := cs') (c := (p.1 + g.d.1 * (1 + (k : Int)), p.2.1 + g.d.2 * (1 + (k : Int))))
              omega
        · rintro ρ ⟨ks, cs', s8, e4, hk4, rfl, e5, e6⟩
          cases ks with
          | cons k ks => cases e4
          | nil =>
            refine ⟨rest, cs', _, _, _, _, rfl, fun q hq => hin q (by simp [hq]), rfl, fun x => ?_, ?_⟩
            · have := e5 x
              simp only [List.not_mem_nil, false_and, exists_const, or_false] at this
              rw [this, ← e2 x]
              simp only [List.mem_cons, exists_eq_or_imp]
              rw [or_assoc]
            · simp at e6; omega
        · unfold rays
          rw [if_pos go]
          simp only [List.mem_map, eq_comm]
      · have go : g = .o := by
          rw [sg_not_o] at go
          exact Classical.not_not.mp go
        walk_at "e"
        refine ev_if.mpr (if_in ?_ ?_)
        · decide
        walk_at "e"
        refine ev_forN ?_
        refine ⟨rest, cs, _, _, _, _, rfl, fun q hq => hin q (by simp [hq]), rfl, fun x => ?_, by omega⟩
        rw [← e2 x]
        simp only [List.mem_cons, exists_eq_or_imp]
        subst go
        simp [rays]
  · rintro ρ ⟨rest, cs, s5, s6, s7, s8, e1, hin, rfl, e2, e3⟩
    cases rest with
    | cons p rest => cases e1
    | nil =>
      simp only [List.not_mem_nil, false_and, exists_const, or_false] at e2
      simp at e3
      walk_at "e"
      refine forL_inv (fun ds ρ => ∃ (rest : List Cell) (cs' : List Cell) (s5 s6 s7 s8 : Option O), ds = rest.map cD ∧ ρ = [vD f.D, some (.val (.str g.S)), vI g.d.1, vI g.d.2, some (dictC cs'), s5, s6, s7, s8, none] ∧
        (∀ x, (x ∈ cs' ∨ ∃ a ∈ rest, x = (a.1 + g.d.1, a.2 + g.d.2)) ↔ (x ∈ cs ∨ ∃ a ∈ f.cs, x = (a.1 + g.d.1, a.2 + g.d.2))) ∧ cs'.length + rest.length ≤ 41) ?_ ?_ _ _ ⟨f.cs, cs, _, _, _, _, rfl, rfl, fun x => Iff.rfl, by omega⟩
      · rintro d ds ρ ⟨rest, cs', s5, s6, s7, s8, e4, rfl, e5, e6⟩
        cases rest with
        | nil => cases e4
        | cons a rest =>
          rw [List.map_cons] at e4
          injection e4 with e4 e4'
          subst e4 e4'
          rw [List.length_cons] at e6
          walk_at "e"
          refine ev_up.mpr ⟨_, _, rfl, sto_c (cs := cs') (c := (a.1 + g.d.1, a.2 + g.d.2)) (by unfold lim; omega), ?_⟩
          walk_at "e"
          refine ⟨rest, _, _, _, _, _, rfl, rfl, fun x => ?_, ?_⟩
          · rw [← e5 x, mem_insC]
            simp only [List.mem_cons, exists_eq_or_imp]
            rw [or_assoc]
          · have := insC_length (cs := cs') (c := (a.1 + g.d.1, a.2 + g.d.2))
            omega
      · rintro ρ ⟨rest, cs', s5, s6, s7, s8, e4, rfl, e5, e6⟩
        cases rest with
        | cons p rest => cases e4
        | nil =>
          simp only [List.not_mem_nil, false_and, exists_const, or_false] at e5
          walk_at "e"
          refine ⟨_, _, rfl, ev_all_cells ok ?_⟩
          refine ev_of.mpr ⟨_, its_cells _, ?_⟩
          refine ev_noX.mpr (ev_bind.mpr (ev_wp.mpr ?_))
          refine dcL_cells (acc := []) (p := shady f g) (fun c hc => ?_) (cells_nodup ok) (by have := cells_len ok; unfold lim; simp; omega) ?_
          · walk_at "e"
            have e7 : cs'.contains c = shady f g c := by
              rw [Bool.eq_iff_iff, List.contains_iff_mem, shady_iff, e5, e2]
            refine ⟨(any_cell c cs').trans e7, fun _ => ?_, fun _ => rfl⟩
            walk_at "e"
            refine ⟨rfl, ?_⟩
            walk_at "e"
            exact ⟨rfl, rfl⟩
          · walk_at "e"
            exact h _
end G

set_option Elab.async false
set_option linter.all false
set_option maxRecDepth 100000
set_option maxHeartbeats 4000000
namespace G
open PySem PySem.Spec PyProof.Rows L2 PF
/-! ### floors are let by -/
local macro_rules | `(tactic| walk_at "e") => `(tactic| (repeat (first | ((with_reducible refine ev_id ?_); first | (with_reducible refine ev_bind.mpr ?_) | (with_reducible refine ev_pure.mpr ?_) | (with_reducible refine ev_seqS.mpr ?_) | (with_reducible refine ev_ite.mpr ?_) | (with_reducible refine ev_ifB.mpr ?_) | (with_reducible refine ev_call.mpr ?_) | (with_reducible refine ev_defM.mpr ?_) | (with_reducible refine ev_lcF.mpr ?_) | (with_reducible refine ev_lc2F.mpr ?_) | (with_reducible refine ev_make.mpr ?_) | (with_reducible refine ev_frz.mpr ?_) | ((with_reducible refine ev_pk.mpr ?_); refine ⟨_, rfl, ?_⟩) | ((with_reducible refine ev_rdE ?_); refine ⟨_, rfl, ?_⟩) | ((with_reducible refine ev_put.mpr ?_); refine ⟨by decide, ?_⟩) | ((with_reducible refine ev_up.mpr ?_); refine ⟨_, _, rfl, rfl, ?_⟩) | (with_reducible refine ev_wp.mpr ?_) | ((with_reducible refine ev_of.mpr ?_); first | refine ⟨_, mul_c (by omega), ?_⟩ | refine ⟨_, mod_c (by omega), ?_⟩ | refine ⟨_, div_c (by omega) (by omega), ?_⟩ | refine ⟨_, pow_c (by decide), ?_⟩ | refine ⟨_, isi_ii _, ?_⟩ | refine ⟨_, isi_ib _, ?_⟩ | refine ⟨_, isi_tt _, ?_⟩ | refine ⟨_, isi_ss _, ?_⟩ | refine ⟨_, rfl, ?_⟩) | ((with_reducible refine ev_ifN ?_ ?_); decide) | ((with_reducible refine ev_ifL ?_ ?_); focus (unfold lim; simp; done)) | ((fail_if_success (with_reducible refine ev_ix2 ?_)); (fail_if_success (with_reducible refine ev_sub2 ?_)); (fail_if_success (with_reducible refine ev_aug2 ?_)); (fail_if_success (with_reducible refine ev_aug2V ?_)); (fail_if_success (with_reducible refine ev_whileK ?_)); (fail_if_success (with_reducible refine ev_of.mpr ?_)); (fail_if_success (with_reducible refine ev_if.mpr ?_)); (fail_if_success (with_reducible refine ev_up.mpr ?_)); (fail_if_success (with_reducible refine ev_rdE ?_)); (fail_if_success (with_reducible refine ev_forK ?_)); first | refine ev_bind.mpr ?_ | refine ev_pure.mpr ?_ | refine ev_put.mpr ⟨by decide, ?_⟩ | refine (ev_rd rfl).mpr ?_ | refine ev_up.mpr ⟨_, _, rfl, rfl, ?_⟩ | refine ev_seqS.mpr ?_ | refine ev_ite.mpr ?_)) | ((with_reducible refine ite_id ?_); first | refine if_tt ?_ | refine if_ff ?_))))
theorem ev_is_cell_ok {f : Flo} {c : Cell} (h : 0 ≤ c.1 ∧ c.1 < f.h ∧ 0 ≤ c.2 ∧ c.2 < f.w) {R : O → Sls → Prop} (hR : R (.val (.bl true)) [vD (cD c), vD f.D]) : Ev m_is_cell [vD (cD c), vD f.D] R := by
  unfold m_is_cell b_is_cell
  walk_at "e"
  refine ⟨_, _, rfl, ev_is_number ?_⟩
  walk_at "e"
  refine ite_in (fun _ => ?_) (fun q => (q ?_).elim)
  · walk_at "e"
    refine ⟨_, _, rfl, ev_is_number ?_⟩
    walk_at "e"
    have e : (decide (0 ≤ c.2) && decide (c.2 ≤ f.w - 1)) = true := by simp; omega
    rw [e]
    exact hR
  · simp; omega
theorem ev_is_post_ok {f : Flo} {p : Post} (h : 0 ≤ p.1 ∧ p.1 < f.h ∧ 0 ≤ p.2.1 ∧ p.2.1 < f.w ∧ 1 ≤ p.2.2 ∧ p.2.2 ≤ 4) {R : O → Sls → Prop} (hR : R (.val (.bl true)) [vD (pD p), vD f.D]) : Ev m_is_post [vD (pD p), vD f.D] R := by
  unfold m_is_post b_is_post
  walk_at "e"
  refine ⟨_, _, rfl, ev_is_cell_ok (c := (p.1, p.2.1)) ⟨h.1, h.2.1, h.2.2.1, h.2.2.2.1⟩ ?_⟩
  walk_at "e"
  refine ⟨_, _, rfl, ev_is_number ?_⟩
  walk_at "e"
  have e : (decide (1 ≤ p.2.2) && decide (p.2.2 ≤ 4)) = true := by simp; omega
  rw [e]
  exact hR
theorem push_l {os : List O} {v : O} (h : os.length ≤ lim) : pushO v (.lst os) = some (.lst (os ++ [v])) := by
  unfold pushO
  simp only
  rw [if_pos h]
theorem push_c {cs : List Cell} {c : Cell} (h : cs.length ≤ lim) : pushO (.val (cD c)) (lstC cs) = some (lstC (cs ++ [c])) := by
  unfold lstC
  rw [push_l (by simpa using h), List.map_append]
  rfl
def enumF (n : Nat) (ds : List D) : List D := (ds.zipIdx n).map fun p => .tup [.int p.2, p.1]
theorem enumF_0 (ds : List D) : enumD ds = enumF 0 ds := rfl
theorem enumF_cons (n : Nat) (d : D) (ds : List D) : enumF n (d :: ds) = .tup [.int n, d] :: enumF (n + 1) ds := rfl
theorem ev_forC {h : O → M Unit} {fb : M Out} {ρ : Sls} {R : Out → Sls → Prop} {d : D} {ds : List D} (q : Ev (h (.val d)) ρ fun _ ρ1 => Ev fb ρ1 fun out ρ2 => match out with
    | .bk => R .nx ρ2
    | .rt o => R (.rt o) ρ2
    | _ => Ev (forL h fb ds) ρ2 R) : Ev (forL h fb (d :: ds)) ρ R := by
  rw [forL, ev_bind]
  refine q.mono fun _ ρ1 q => ?_
  rw [ev_bind]
  refine q.mono fun out ρ2 q => ?_
  cases out with
  | bk => exact ev_pure.mpr q
  | rt o => exact ev_pure.mpr q
  | nx => exact q
  | ct => exact q
def pC (p : Post) : Cell := (p.1, p.2.1)
local macro_rules | `(tactic| walk_at "u") => `(tactic| (repeat (first | ((with_reducible refine ev_id ?_); first | (with_reducible refine ev_bind.mpr ?_) | (with_reducible refine ev_pure.mpr ?_) | (with_reducible refine ev_seqS.mpr ?_) | (with_reducible refine ev_ite.mpr ?_) | (with_reducible refine ev_ifB.mpr ?_) | (with_reducible refine ev_call.mpr ?_) | (with_reducible refine ev_defM.mpr ?_) | (with_reducible refine ev_lcF.mpr ?_) | (with_reducible refine ev_lc2F.mpr ?_) | (with_reducible refine ev_make.mpr ?_) | (with_reducible refine ev_frz.mpr ?_) | ((with_reducible refine ev_pk.mpr ?_); refine ⟨_, rfl, ?_⟩) | ((with_reducible refine ev_rdE ?_); refine ⟨_, rfl, ?_⟩) | ((with_reducible refine ev_put.mpr ?_); refine ⟨by decide, ?_⟩) | ((with_reducible refine ev_up.mpr ?_); refine ⟨_, _, rfl, rfl, ?_⟩) | (with_reducible refine ev_wp.mpr ?_) | ((with_reducible refine ev_of.mpr ?_); first | refine ⟨_, mul_c (by omega), ?_⟩ | refine ⟨_, mod_c (by omega), ?_⟩ | refine ⟨_, div_c (by omega) (by omega), ?_⟩ | refine ⟨_, pow_c (by decide), ?_⟩ | refine ⟨_, isi_ii _, ?_⟩ | refine ⟨_, isi_ib _, ?_⟩ | refine ⟨_, isi_tt _, ?_⟩ | refine ⟨_, isi_ss _, ?_⟩ | refine ⟨_, rfl, ?_⟩) | ((with_reducible refine ev_ifN ?_ ?_); decide) | ((with_reducible refine ev_ifL ?_ ?_); focus (unfold lim; simp; done)) | ((fail_if_success (with_reducible refine ev_ix2 ?_)); (fail_if_success (with_reducible refine ev_sub2 ?_)); (fail_if_success (with_reducible refine ev_aug2 ?_)); (fail_if_success (with_reducible refine ev_aug2V ?_)); (fail_if_success (with_reducible refine ev_whileK ?_)); (fail_if_success (with_reducible refine ev_of.mpr ?_)); (fail_if_success (with_reducible refine ev_if.mpr ?_)); (fail_if_success (with_reducible refine ev_up.mpr ?_)); (fail_if_success (with_reducible refine ev_rdE ?_)); first | refine ev_bind.mpr ?_ | refine ev_pure.mpr ?_ | refine ev_put.mpr ⟨by decide, ?_⟩ | refine (ev_rd rfl).mpr ?_ | refine ev_up.mpr ⟨_, _, rfl, rfl, ?_⟩ | refine ev_seqS.mpr ?_ | refine ev_ite.mpr ?_)) | ((with_reducible refine ite_id ?_); first | refine if_tt ?_ | refine if_ff ?_))))
theorem ev_need_floor {f : Flo} (ok : f.Ok) {R : O → Sls → Prop} (h : ∀ ρ, R (.val .non) (vD f.D :: ρ)) (c8 : f.cs.length ≤ 8 := by assumption) : Ev m_need_floor [vD f.D] R := by
  unfold m_need_floor b_need_floor
  have a := ok.h0; have b := ok.h1; have c := ok.w0; have d := ok.w1
  have pn := ok.pn; have cn := c8
  walk_at "u"
  refine ev_if.mpr (if_in (by decide) ?_)
  walk_at "u"
  refine ⟨_, _, rfl, ev_is_number ?_⟩
  have e1 : (decide (1 ≤ f.h) && decide (f.h ≤ 5)) = true := by simp; omega
  rw [e1]
  walk_at "u"
  refine ⟨_, _, rfl, ev_is_number ?_⟩
  have e2 : (decide (1 ≤ f.w) && decide (f.w ≤ 5)) = true := by simp; omega
  rw [e2]
  walk_at "u"
  refine forL_inv (fun ds ρ => ∃ (done rest : List Post) (s1 s5 s6 : Option O), ds = enumF done.length (rest.map pD) ∧ f.ps = done ++ rest ∧ ρ = [vD f.D, s1, vI 2, vI 4, some (lstC (done.map pC)), s5, s6]) ?_ ?_ _ _ ⟨[], f.ps, _, _, _, rfl, rfl, rfl⟩
  · rintro d ds ρ ⟨done, rest, s1, s5, s6, e3, e4, rfl⟩
    cases rest with
    | nil => cases e3
    | cons p rest =>
      rw [List.map_cons, enumF_cons] at e3
      injection e3 with e3 e3'
      subst e3 e3'
      have pin := ok.pin p (by rw [e4]; simp)
      have e5 : (done.map pC).contains (pC p) = false := by
        have nd := ok.pnd
        rw [e4, List.map_append, List.nodup_append] at nd
        rw [Bool.eq_false_iff, ne_eq, List.contains_iff_mem]
        exact fun hm => nd.2.2 (pC p) hm (pC p) (by simp [pC]) rfl
      have e6 : (done.length : Int) ≠ 4 := by
        rw [e4, List.length_append, List.length_cons] at pn
        omega
      walk_at "e"
      refine ⟨_, _, rfl, ev_is_post_ok pin ?_⟩
      walk_at "e"
      refine ite_in (fun q => ?_) (fun _ => ?_)
      · exact (e6 (by simpa [fz, D.eqv] using q)).elim
      walk_at "e"
      refine ev_of.mpr ⟨_, in_cellsL (pC p) (done.map pC), ?_⟩
      rw [e5]
      walk_at "e"
      refine ev_up.mpr ⟨_, _, rfl, push_c (c := pC p) (by rw [e4] at pn; simp at pn; simp; unfold lim; omega), ?_⟩
      walk_at "e"
      exact ⟨done ++ [p], rest, _, _, _, by simp [List.length_append], by rw [e4]; simp, by rw [List.map_append]; rfl⟩
  · rintro ρ ⟨done, rest, s1, s5, s6, e3, e4, rfl⟩
    cases rest with
    | cons p rest => cases e3
    | nil =>
      walk_at "u"
      refine forL_inv (fun ds ρ => ∃ (done rest : List Cell) (s1 s5 s6 : Option O), ds = enumF done.length (rest.map cD) ∧ f.cs = done ++ rest ∧ ρ = [vD f.D, s1, vI 3, vI 8, some (lstC done), s5, s6]) ?_ ?_ _ _ ⟨[], f.cs, _, _, _, rfl, rfl, rfl⟩
      · rintro d ds ρ ⟨done, rest, s1, s5, s6, e3, e4, rfl⟩
        cases rest with
        | nil => cases e3
        | cons p rest =>
          rw [List.map_cons, enumF_cons] at e3
          injection e3 with e3 e3'
          subst e3 e3'
          have pin := ok.cin p (by rw [e4]; simp)
          have e5 : done.contains p = false := by
            have nd := ok.cnd
            rw [e4, List.nodup_append] at nd
            rw [Bool.eq_false_iff, ne_eq, List.contains_iff_mem]
            exact fun hm => nd.2.2 p hm p (by simp) rfl
          have e6 : (done.length : Int) ≠ 8 := by
            rw [e4, List.length_append, List.length_cons] at cn
            omega
          walk_at "e"
          refine ⟨_, _, rfl, ev_is_cell_ok pin ?_⟩
          walk_at "e"
          refine ite_in (fun q => ?_) (fun _ => ?_)
          · exact (e6 (by simpa [fz, D.eqv] using q)).elim
          walk_at "e"
          refine ev_of.mpr ⟨_, in_cellsL p done, ?_⟩
          rw [e5]
          walk_at "e"
          refine ev_up.mpr ⟨_, _, rfl, push_c (c := p) (by rw [e4] at cn; simp at cn; unfold lim; omega), ?_⟩
          walk_at "e"
          exact ⟨done ++ [p], rest, _, _, _, by simp [List.length_append], by rw [e4]; simp, rfl⟩
      · rintro ρ ⟨done, rest, s1, s5, s6, e3, e4, rfl⟩
        cases rest with
        | cons p rest => cases e3
        | nil =>
          walk_at "u"
          exact h _
end G

set_option Elab.async false
set_option linter.all false
set_option maxRecDepth 100000
set_option maxHeartbeats 4000000
namespace G
open PySem PySem.Spec PyProof.Rows L2 PF
/-! ### suns -/
def Sg.c : Sg → Nat
  | .e => 101
  | .n => 110
  | .o => 111
  | .s => 115
  | .w => 119
theorem Sg.S_eq (g : Sg) : g.S = ⟨#[g.c]⟩ := by cases g <;> decide +kernel
def sunS (l : List Sg) : Str := ⟨(l.map Sg.c).toArray⟩
theorem signs_sun (l : List Sg) : signsD (sunS l) = l.map fun g => D.str g.S := by
  unfold signsD sunS
  simp only [List.map_map]
  refine List.map_congr_left fun g _ => ?_
  simp [Sg.S_eq]
theorem len_sunS (l : List Sg) : (sunS l).length = l.length := by unfold sunS PySem.Str.length; simp
theorem len_sun {l : List Sg} (h : l.length ≤ 6) : lenF [.val (.str (sunS l))] = some (.val (.int l.length)) := by
  unfold lenF
  simp only [len_sunS]
  rw [if_pos (by unfold lim; omega)]
theorem idx_sun {l : List Sg} {i : Int} (h : l.length ≤ 6) (h0 : 0 ≤ i) (h1 : i < l.length) : ∃ g, l[i.toNat]? = some g ∧ idxE (.val (.str (sunS l))) (.val (.int i)) = some (.val (.str g.S)) := by
  have hj : i.toNat < l.length := by omega
  refine ⟨l[i.toNat], by simp [hj], ?_⟩
  show (if (sunS l).length ≤ lim then (atI (sunS l).cps.toList i).map fun c => O.val (.str ⟨#[c]⟩) else none) = _
  rw [if_pos (by rw [len_sunS]; unfold lim; omega)]
  have e : atI (sunS l).cps.toList i = some (l[i.toNat]).c := by
    unfold L2.atI ixN sunS
    simp [h0, h1, hj]
  rw [e]
  simp [Sg.S_eq]
theorem sun_ne {l : List Sg} (h : l ≠ []) : ¬ ((sunS l == PySem.Str.ofString "") = true) := by
  intro q
  have e : sunS l = PySem.Str.ofString "" := by simpa using q
  have e2 := congrArg PySem.Str.length e
  rw [len_sunS] at e2
  have e3 : (PySem.Str.ofString "").length = 0 := by decide +kernel
  rw [e3] at e2
  exact h (List.eq_nil_of_length_eq_zero e2)
theorem nin_steps (g : Sg) : ninE (.val (.str g.S)) (.val d_STEPS) = some false := by cases g <;> decide +kernel
local macro_rules | `(tactic| walk_at "e") => `(tactic| (repeat (first | ((with_reducible refine ev_id ?_); first | (with_reducible refine ev_bind.mpr ?_) | (with_reducible refine ev_pure.mpr ?_) | (with_reducible refine ev_seqS.mpr ?_) | (with_reducible refine ev_ite.mpr ?_) | (with_reducible refine ev_ifB.mpr ?_) | (with_reducible refine ev_call.mpr ?_) | (with_reducible refine ev_defM.mpr ?_) | (with_reducible refine ev_lcF.mpr ?_) | (with_reducible refine ev_lc2F.mpr ?_) | (with_reducible refine ev_make.mpr ?_) | (with_reducible refine ev_frz.mpr ?_) | ((with_reducible refine ev_pk.mpr ?_); refine ⟨_, rfl, ?_⟩) | ((with_reducible refine ev_rdE ?_); refine ⟨_, rfl, ?_⟩) | ((with_reducible refine ev_put.mpr ?_); refine ⟨by decide, ?_⟩) | ((with_reducible refine ev_up.mpr ?_); refine ⟨_, _, rfl, rfl, ?_⟩) | (with_reducible refine ev_wp.mpr ?_) | ((with_reducible refine ev_of.mpr ?_); first | refine ⟨_, mul_c (by omega), ?_⟩ | refine ⟨_, mod_c (by omega), ?_⟩ | refine ⟨_, div_c (by omega) (by omega), ?_⟩ | refine ⟨_, pow_c (by decide), ?_⟩ | refine ⟨_, isi_ii _, ?_⟩ | refine ⟨_, isi_ib _, ?_⟩ | refine ⟨_, isi_tt _, ?_⟩ | refine ⟨_, isi_ss _, ?_⟩ | refine ⟨_, rfl, ?_⟩) | ((with_reducible refine ev_ifN ?_ ?_); decide) | ((with_reducible refine ev_ifL ?_ ?_); focus (unfold lim; simp; done)) | ((fail_if_success (with_reducible refine ev_ix2 ?_)); (fail_if_success (with_reducible refine ev_sub2 ?_)); (fail_if_success (with_reducible refine ev_aug2 ?_)); (fail_if_success (with_reducible refine ev_aug2V ?_)); (fail_if_success (with_reducible refine ev_whileK ?_)); (fail_if_success (with_reducible refine ev_of.mpr ?_)); (fail_if_success (with_reducible refine ev_if.mpr ?_)); (fail_if_success (with_reducible refine ev_up.mpr ?_)); (fail_if_success (with_reducible refine ev_rdE ?_)); (fail_if_success (with_reducible refine ev_forK ?_)); first | refine ev_bind.mpr ?_ | refine ev_pure.mpr ?_ | refine ev_put.mpr ⟨by decide, ?_⟩ | refine (ev_rd rfl).mpr ?_ | refine ev_up.mpr ⟨_, _, rfl, rfl, ?_⟩ | refine ev_seqS.mpr ?_ | refine ev_ite.mpr ?_)) | ((with_reducible refine ite_id ?_); first | refine if_tt ?_ | refine if_ff ?_))))
theorem ev_need_sun {l : List Sg} (h0 : l ≠ []) (h1 : l.length ≤ 6) {R : O → Sls → Prop} (h : ∀ ρ, R (.val .non) (some (.val (.str (sunS l))) :: ρ)) : Ev m_need_sun [some (.val (.str (sunS l)))] R := by
  unfold m_need_sun b_need_sun
  walk_at "e"
  refine ite_in (fun q => (sun_ne h0 q).elim) (fun _ => ?_)
  walk_at "e"
  refine forL_inv (fun ds ρ => ∃ (n : Nat) (rest : List Sg) (s1 s2 : Option O), ds = enumF n (rest.map fun g => D.str g.S) ∧ n + rest.length ≤ 6 ∧ ρ = [some (.val (.str (sunS l))), s1, s2]) ?_ ?_ _ _ ⟨0, l, _, _, by rw [← signs_sun]; rfl, by omega, rfl⟩
  · rintro d ds ρ ⟨n, rest, s1, s2, e1, e2, rfl⟩
    cases rest with
    | nil => cases e1
    | cons g rest =>
      rw [List.map_cons, enumF_cons] at e1
      injection e1 with e1 e1'
      subst e1 e1'
      rw [List.length_cons] at e2
      walk_at "e"
      refine ite_in (fun q => ?_) (fun _ => ?_)
      · have : (n : Int) = 6 := by simpa [fz, D.eqv] using q
        omega
      walk_at "e"
      have q : (ninE (.val (.str g.S)) (.val d_STEPS)).getD true = false := by rw [nin_steps g]; rfl
      refine ite_in (fun q2 => ?_) (fun _ => ?_)
      · exact absurd (show (ninE (.val (.str g.S)) (.val d_STEPS)).getD true = true from q2) (by rw [q]; simp)
      walk_at "e"
      exact ⟨n + 1, rest, _, _, rfl, by omega, rfl⟩
  · rintro ρ ⟨n, rest, s1, s2, e1, e2, rfl⟩
    walk_at "e"
    exact h _
/-! ### in order -/
theorem dlt_c (a b : Cell) : PySem.W.dataLt (toPy (cD a)) (toPy (cD b)) = cLt a b := by
  obtain ⟨a1, a2⟩ := a
  obtain ⟨b1, b2⟩ := b
  rw [Bool.eq_iff_iff, cLt_iff]
  simp [cD, toPy, toPys, PySem.W.dataLt, PySem.W.keyToks, PySem.W.keyToksAll, PyProof.Rows.lexLt, PyProof.Rows.itemLt, PyProof.Rows.itemOrd]
  omega
theorem dle_c (a b : Cell) : PySem.W.dataLe false toPy (cD a) (cD b) = !cLt b a := by
  rw [← dlt_c]
  rfl
theorem cells_sorted {f : Flo} (ok : f.Ok) : f.cells.Pairwise cLe := cells_sortedB ok
theorem srt_c {cs : List Cell} (h : cs.Pairwise cLe) : srtD (cs.map cD) = cs.map cD := by
  unfold srtD
  refine List.mergeSort_of_pairwise ?_
  rw [List.pairwise_map]
  refine h.imp fun {a b} q => ?_
  rw [dle_c, cLt_no.mpr q]
  rfl
theorem alike_c (a b : Cell) : PySem.W.alike (toPy (cD a)) (toPy (cD b)) = true := by rfl
theorem srtOk_c {cs : List Cell} (h : cs.length ≤ lim) : srtOk (cs.map cD) = true := by
  unfold srtOk
  rw [Bool.and_eq_true, Bool.and_eq_true, Bool.and_eq_true]
  refine ⟨⟨⟨cs_ok cs 15, ?_⟩, ?_⟩, by simpa using h⟩
  · rw [List.all_eq_true]
    intro x hx
    rw [List.all_eq_true]
    intro y hy
    obtain ⟨a, _, rfl⟩ := List.mem_map.mp hx
    obtain ⟨b, _, rfl⟩ := List.mem_map.mp hy
    exact alike_c a b
  · rw [Bool.or_eq_true]
    refine .inl ?_
    rw [List.all_eq_true]
    intro x hx
    obtain ⟨a, _, rfl⟩ := List.mem_map.mp hx
    rfl
theorem srt_dict {cs : List Cell} (h : cs.Pairwise cLe) (hl : cs.length ≤ lim) : srtF [dictC cs] = some (lstC cs) := by
  show (if srtOk (cs.map cD) = true then some (O.lst ((srtD (cs.map cD)).map O.val)) else none) = _
  rw [if_pos (srtOk_c hl), srt_c h, lstC_eq]
theorem ev_shade {f : Flo} (ok : f.Ok) {l : List Sg} (h0 : l ≠ []) (h1 : l.length ≤ 6) {b : Int} (b0 : 0 ≤ b) (b1 : b ≤ 10 ^ 18) {R : O → Sls → Prop}
    (h : ∀ g ρ, l[(b % (l.length : Int)).toNat]? = some g → R (lstC (f.cells.filter (shady f g))) (vD f.D :: some (.val (.str (sunS l))) :: vI b :: ρ)) (c8 : f.cs.length ≤ 8 := by assumption) : Ev m_shade [vD f.D, some (.val (.str (sunS l))), vI b] R := by
  unfold m_shade b_shade
  have hl : 0 < (l.length : Int) := by
    have := List.length_pos_iff.mpr h0
    omega
  walk_at "e"
  refine ⟨_, _, rfl, ev_need_floor ok fun ρ => ?_⟩
  walk_at "e"
  refine ⟨_, _, rfl, ev_need_sun h0 h1 fun ρ => ?_⟩
  walk_at "e"
  refine ⟨_, _, rfl, ev_need_count b0 b1 ?_⟩
  walk_at "e"
  refine ev_of.mpr ⟨_, len_sun h1, ?_⟩
  walk_at "e"
  obtain ⟨g, hg, e⟩ := idx_sun h1 (Int.emod_nonneg b (by omega)) (Int.emod_lt_of_pos b hl)
  refine ev_of.mpr ⟨_, e, ?_⟩
  walk_at "e"
  refine ⟨_, _, rfl, ev_shaded ok g fun ρ => ?_⟩
  walk_at "e"
  refine ev_of.mpr ⟨_, srt_dict ((cells_sorted ok).filter _) ?_, ?_⟩
  · have := cells_len ok
    have := List.length_filter_le (shady f g) f.cells
    unfold lim; omega
  walk_at "e"
  exact h g _ hg
end G

set_option Elab.async false
set_option linter.all false
set_option maxRecDepth 100000
set_option maxHeartbeats 4000000
namespace G
open PySem PySem.Spec PyProof.Rows L2 PF
/-! ### floors told apart -/
def sh (f : Flo) (g : Sg) (c : Cell) : Bool := f.cells.contains c && shady f g c
def df (f o : Flo) (g : Sg) (c : Cell) : Bool := !(sh f g c == sh o g c)
def grid : List Cell := cellsOf 5 5
def firstD (f o : Flo) : Nat → List Sg → Option (Nat × Cell)
  | _, [] => none
  | b, g :: gs => match grid.find? (df f o g) with
    | some c => some (b, c)
    | none => firstD f o (b + 1) gs
def dueD : Option (Nat × Cell) → D
  | none => .non
  | some (b, c) => .tup [.int b, cD c]
theorem df_comm (f o : Flo) (g : Sg) : df f o g = df o f g := by
  funext c
  unfold df
  cases sh f g c <;> cases sh o g c <;> rfl
theorem df_self (f : Flo) (g : Sg) : df f f g = fun _ => false := by
  funext c
  unfold df
  cases sh f g c <;> rfl
theorem firstD_comm (f o : Flo) : ∀ (l : List Sg) (b : Nat), firstD f o b l = firstD o f b l
  | [], b => rfl
  | g :: l, b => by rw [firstD, firstD, df_comm f o g, firstD_comm f o l]
theorem firstD_self (f : Flo) : ∀ (l : List Sg) (b : Nat), firstD f f b l = none
  | [], b => rfl
  | g :: l, b => by
    rw [firstD, df_self, firstD_self f l]
    have : grid.find? (fun _ => false) = none := by simp
    rw [this]
theorem grid_sorted : grid.Pairwise cLe := show (cellsOf 5 5).Pairwise (fun a b => a.1 < b.1 ∨ (a.1 = b.1 ∧ a.2 ≤ b.2)) by decide
theorem mem_grid (c : Cell) : c ∈ grid ↔ 0 ≤ c.1 ∧ c.1 < 5 ∧ 0 ≤ c.2 ∧ c.2 < 5 :=
  mem_cells (f := ⟨5, 5, [], []⟩) ⟨by decide, by decide, by decide, by decide, by simp, by simp, by simp, by simp, by simp, by simp⟩ c
theorem cells_grid {f : Flo} (ok : f.Ok) {c : Cell} (h : c ∈ f.cells) : c ∈ grid := by
  have a := ok.h1; have b := ok.w1
  rw [mem_cells ok] at h
  rw [mem_grid]
  omega
theorem some_none {f o : Flo} {g : Sg} (h : (f.cells ++ o.cells).filter (df f o g) = []) : grid.find? (df f o g) = none := by
  rw [List.find?_eq_none]
  intro c _ q
  have h2 : c ∉ (f.cells ++ o.cells).filter (df f o g) := by rw [h]; simp
  rw [List.mem_filter, List.mem_append] at h2
  refine h2 ⟨?_, q⟩
  unfold df sh at q
  by_cases c1 : c ∈ f.cells
  · exact .inl c1
  · by_cases c2 : c ∈ o.cells
    · exact .inr c2
    · rw [show f.cells.contains c = false by simpa using c1, show o.cells.contains c = false by simpa using c2] at q
      simp at q
theorem some_some {f o : Flo} (ok : f.Ok) (ok2 : o.Ok) {g : Sg} {x : Cell} {xs : List Cell} (h : (f.cells ++ o.cells).filter (df f o g) = x :: xs) : grid.find? (df f o g) = some (minC x xs) := by
  obtain ⟨h1, h2⟩ := minC_spec xs x
  have hm : minC x xs ∈ (f.cells ++ o.cells).filter (df f o g) := by rw [h]; exact h1
  rw [List.mem_filter, List.mem_append] at hm
  refine find_min grid_sorted (hm.1.elim (cells_grid ok) (cells_grid ok2)) hm.2 fun y hy q => ?_
  refine h2 y ?_
  rw [← h, List.mem_filter, List.mem_append]
  refine ⟨?_, q⟩
  unfold df sh at q
  by_cases c1 : y ∈ f.cells
  · exact .inl c1
  · by_cases c2 : y ∈ o.cells
    · exact .inr c2
    · rw [show f.cells.contains y = false by simpa using c1, show o.cells.contains y = false by simpa using c2] at q
      simp at q
theorem contains_filter (f : Flo) (g : Sg) (c : Cell) : (f.cells.filter (shady f g)).contains c = sh f g c := by
  unfold sh
  rw [Bool.eq_iff_iff, List.contains_iff_mem, List.mem_filter, Bool.and_eq_true, List.contains_iff_mem]
theorem fz_dictC (cs : List Cell) : fz (dictC cs) = dictV cs := by
  unfold dictC dictV
  rw [fz]
  congr 1
  induction cs with
  | nil => rfl
  | cons c cs ih => rw [List.map_cons, fzs, fz, ih, List.map_cons]
theorem add_lc {a b : List Cell} (h : a.length + b.length ≤ lim) : addG (lstC a) (lstC b) = some (lstC (a ++ b)) := by
  have e : addG (lstC a) (lstC b) = match (lstC a).dsL, (lstC b).dsL with
    | some xs, some ys => if xs.length + ys.length ≤ lim then some (.lst ((xs ++ ys).map .val)) else none
    | _, _ => none := rfl
  rw [e, dsL_cells, dsL_cells]
  simp only
  rw [if_pos (by simpa using h), lstC_eq, List.map_append, List.map_append, List.map_append]
theorem ne_nil (cs : List Cell) : neC (lstC cs) (.lst []) = some (decide (cs ≠ [])) := by
  have e : neC (lstC cs) (.lst []) = (if okD 16 (fz (lstC cs)) && okD 16 (fz (.lst [])) then some ((fz (lstC cs)).eqv (fz (.lst []))) else none).map (!·) := rfl
  have e2 : fz (lstC cs) = .lst (cs.map cD) := by unfold lstC; rw [fz, fzs_cells]
  rw [e, e2, if_pos (by rw [Bool.and_eq_true]; exact ⟨cs_ok cs 14, rfl⟩)]
  cases cs with
  | nil => rfl
  | cons c cs => simp [fz, fzs, D.eqv, D.eqvs]
theorem min_dd : ∀ (xs : List Cell) (x : Cell), minDD (cD x) (xs.map cD) = cD (minC x xs)
  | [], x => rfl
  | y :: xs, x => by
    have e : minDD (cD x) ((y :: xs).map cD) = minDD (if PySem.W.dataLt (toPy (cD y)) (toPy (cD x)) = true then cD y else cD x) (xs.map cD) := rfl
    have e2 : minC x (y :: xs) = minC (if cLt y x = true then y else x) xs := rfl
    rw [e, e2, dlt_c, ← min_dd xs]
    congr 1
    split <;> rfl
theorem min_c (x : Cell) (xs : List Cell) : minF [lstC (x :: xs)] = some (.val (cD (minC x xs))) := by
  have e : minF [lstC (x :: xs)] = match (lstC (x :: xs)).dsT.or (lstC (x :: xs)).dsL with
    | some (d :: ds) => if minOk (d :: ds) = true then some (.val (minDD d ds)) else none
    | _ => none := rfl
  have e1 : (lstC (x :: xs)).dsT = none := rfl
  rw [e, e1, dsL_cells, Option.none_or, List.map_cons]
  simp only
  rw [← min_dd, if_pos]
  unfold minOk
  rw [Bool.and_eq_true, Bool.and_eq_true]
  refine ⟨⟨cs_ok (x :: xs) 15, ?_⟩, ?_⟩
  · rw [List.all_eq_true]
    intro a ha
    rw [List.all_eq_true]
    intro b hb
    obtain ⟨a', _, rfl⟩ := List.mem_map.mp (show a ∈ (x :: xs).map cD from ha)
    obtain ⟨b', _, rfl⟩ := List.mem_map.mp (show b ∈ (x :: xs).map cD from hb)
    exact alike_c a' b'
  · rw [List.all_eq_true]
    intro a ha
    obtain ⟨a', _, rfl⟩ := List.mem_map.mp (show a ∈ (x :: xs).map cD from ha)
    rfl
def unC (p : Cell → Bool) : D → Bool
  | .tup [.int a, .int b] => p (a, b)
  | _ => false
theorem filter_c (p : Cell → Bool) (cs : List Cell) : ((cs.map cD).filter (unC p)).map O.val = (cs.filter p).map fun c => O.val (cD c) := by
  rw [List.filter_map, List.map_map]
  rfl
local macro_rules | `(tactic| walk_at "e") => `(tactic| (repeat (first | ((with_reducible refine ev_id ?_); first | (with_reducible refine ev_bind.mpr ?_) | (with_reducible refine ev_pure.mpr ?_) | (with_reducible refine ev_seqS.mpr ?_) | (with_reducible refine ev_ite.mpr ?_) | (with_reducible refine ev_ifB.mpr ?_) | (with_reducible refine ev_call.mpr ?_) | (with_reducible refine ev_defM.mpr ?_) | (with_reducible refine ev_lcF.mpr ?_) | (with_reducible refine ev_lc2F.mpr ?_) | (with_reducible refine ev_make.mpr ?_) | (with_reducible refine ev_frz.mpr ?_) | ((with_reducible refine ev_pk.mpr ?_); refine ⟨_, rfl, ?_⟩) | ((with_reducible refine ev_rdE ?_); refine ⟨_, rfl, ?_⟩) | ((with_reducible refine ev_put.mpr ?_); refine ⟨by decide, ?_⟩) | ((with_reducible refine ev_up.mpr ?_); refine ⟨_, _, rfl, rfl, ?_⟩) | (with_reducible refine ev_wp.mpr ?_) | ((with_reducible refine ev_of.mpr ?_); first | refine ⟨_, mul_c (by omega), ?_⟩ | refine ⟨_, mod_c (by omega), ?_⟩ | refine ⟨_, div_c (by omega) (by omega), ?_⟩ | refine ⟨_, pow_c (by decide), ?_⟩ | refine ⟨_, isi_ii _, ?_⟩ | refine ⟨_, isi_ib _, ?_⟩ | refine ⟨_, isi_tt _, ?_⟩ | refine ⟨_, isi_ss _, ?_⟩ | refine ⟨_, rfl, ?_⟩) | ((with_reducible refine ev_ifN ?_ ?_); decide) | ((with_reducible refine ev_ifL ?_ ?_); focus (unfold lim; simp; done)) | ((fail_if_success (with_reducible refine ev_ix2 ?_)); (fail_if_success (with_reducible refine ev_sub2 ?_)); (fail_if_success (with_reducible refine ev_aug2 ?_)); (fail_if_success (with_reducible refine ev_aug2V ?_)); (fail_if_success (with_reducible refine ev_whileK ?_)); (fail_if_success (with_reducible refine ev_of.mpr ?_)); (fail_if_success (with_reducible refine ev_if.mpr ?_)); (fail_if_success (with_reducible refine ev_up.mpr ?_)); (fail_if_success (with_reducible refine ev_rdE ?_)); (fail_if_success (with_reducible refine ev_forK ?_)); first | refine ev_bind.mpr ?_ | refine ev_pure.mpr ?_ | refine ev_put.mpr ⟨by decide, ?_⟩ | refine (ev_rd rfl).mpr ?_ | refine ev_up.mpr ⟨_, _, rfl, rfl, ?_⟩ | refine ev_seqS.mpr ?_ | refine ev_ite.mpr ?_)) | ((with_reducible refine ite_id ?_); first | refine if_tt ?_ | refine if_ff ?_))))
theorem ev_parted {f o : Flo} (ok : f.Ok) (ok2 : o.Ok) {l : List Sg} (h0 : l ≠ []) (h1 : l.length ≤ 6) {R : O → Sls → Prop}
    (h : ∀ ρ, R (.val (dueD (firstD f o 0 l))) (vD f.D :: vD o.D :: some (.val (.str (sunS l))) :: ρ)) (c8 : f.cs.length ≤ 8 := by assumption) (c8o : o.cs.length ≤ 8 := by assumption) : Ev m_parted [vD f.D, vD o.D, some (.val (.str (sunS l)))] R := by
  unfold m_parted b_parted
  walk_at "e"
  refine ⟨_, _, rfl, ev_need_floor ok fun ρ => ?_⟩
  walk_at "e"
  refine ⟨_, _, rfl, ev_need_floor ok2 fun ρ => ?_⟩
  walk_at "e"
  refine ⟨_, _, rfl, ev_need_sun h0 h1 fun ρ => ?_⟩
  walk_at "e"
  refine forL_inv (fun ds ρ => ∃ (n : Nat) (rest : List Sg) (s3 s4 s5 s6 s7 : Option O), ds = enumF n (rest.map fun g => D.str g.S) ∧ ρ = [vD f.D, vD o.D, some (.val (.str (sunS l))), s3, s4, s5, s6, s7, none] ∧ firstD f o n rest = firstD f o 0 l) ?_ ?_ _ _ ⟨0, l, _, _, _, _, _, by rw [← signs_sun]; rfl, rfl, rfl⟩
  · rintro d ds ρ ⟨n, rest, s3, s4, s5, s6, s7, e1, rfl, e2⟩
    cases rest with
    | nil => cases e1
    | cons g rest =>
      rw [List.map_cons, enumF_cons] at e1
      injection e1 with e1 e1'
      subst e1 e1'
      walk_at "e"
      refine ⟨_, _, rfl, ev_shaded ok g fun ρ => ?_⟩
      walk_at "e"
      refine ⟨_, _, rfl, ev_shaded ok2 g fun ρ => ?_⟩
      walk_at "e"
      refine ⟨_, _, rfl, ev_all_cells ok ?_⟩
      walk_at "e"
      refine ⟨_, _, rfl, ev_all_cells ok2 ?_⟩
      walk_at "e"
      have z1 := cells_len ok
      have z2 := cells_len ok2
      refine ev_of.mpr ⟨_, add_lc (by unfold lim; omega), ?_⟩
      refine ev_of.mpr ⟨_, its_cells _, ?_⟩
      try rw [fz_dictC, fz_dictC]
      refine ⟨by simp; unfold lim; omega, ?_⟩
      refine lcL_map (p := unC (df f o g)) (e := O.val) (fun x hx => ?_) ?_
      · obtain ⟨c, hc, rfl⟩ := List.mem_map.mp hx
        walk_at "e"
        refine ⟨?_, fun _ => ?_, fun _ => rfl⟩
        · show (!((((f.cells.filter (shady f g)).map cD).any fun k => k.eqv (cD c)) == (((o.cells.filter (shady o g)).map cD).any fun k => k.eqv (cD c)))) = df f o g c
          rw [any_cell, any_cell, contains_filter, contains_filter]
          rfl
        · walk_at "e"
          exact ⟨rfl, rfl⟩
      · rw [filter_c]
        walk_at "e"
        refine ev_of.mpr ⟨_, ne_nil _, ?_⟩
        cases hs : (f.cells ++ o.cells).filter (df f o g) with
        | nil =>
          refine ite_in (fun q => absurd q (by simp)) (fun _ => ?_)
          walk_at "e"
          refine ⟨n + 1, rest, _, _, _, _, _, rfl, rfl, ?_⟩
          rw [← e2, firstD, some_none hs]
        | cons x xs =>
          refine ite_in (fun q => ?_) (fun q => absurd q (by simp))
          walk_at "e"
          refine ev_of.mpr ⟨_, min_c x xs, ?_⟩
          walk_at "e"
          rw [firstD, some_some ok ok2 hs] at e2
          rw [← e2] at h
          exact h _
  · rintro ρ ⟨n, rest, s3, s4, s5, s6, s7, e1, rfl, e2⟩
    cases rest with
    | cons p rest => cases e1
    | nil =>
      walk_at "e"
      rw [← e2] at h
      exact h _
end G

set_option Elab.async false
set_option linter.all false
set_option maxRecDepth 100000
set_option maxHeartbeats 4000000
namespace G
open PySem PySem.Spec PyProof.Rows L2 PF
/-! ### the same things -/
def al : Nat → D → Bool
  | _ + 1, .non => true
  | _ + 1, .bl _ => true
  | _ + 1, .int _ => true
  | _ + 1, .str _ => true
  | n + 1, .tup ds => decide (ds.length ≤ lim) && ds.all (al n)
  | n + 1, .lst ds => decide (ds.length ≤ lim) && ds.all (al n)
  | _, _ => false
def Lk (o : O) (ds : List D) : Prop := o = .val (.tup ds) ∨ o = .val (.lst ds) ∨ o = .lst (ds.map .val)
abbrev tyTL : O := .val (.tup [.ty "tuple", .ty "list"])
theorem isi2 {o : O} {t : String} {a b : Bool} (h : o.tyS = some t) (h1 : kitB t "tuple" = some a) (h2 : kitB t "list" = some b) : isiF [o, tyTL] = some (.val (.bl (a || b))) := by
  unfold isiF tyTL
  simp only [h, kitA, h1, h2, Option.map_some, Bool.or_false]
theorem kit_st : kitB "str" "tuple" = some false := by decide +kernel
theorem kit_sl : kitB "str" "list" = some false := by decide +kernel
theorem kit_sb : kitB "str" "bool" = some false := by decide +kernel
theorem kit_bt : kitB "bool" "tuple" = some false := by decide +kernel
theorem kit_bl : kitB "bool" "list" = some false := by decide +kernel
theorem kit_bb : kitB "bool" "bool" = some true := by decide +kernel
theorem Lk.isi2 {o : O} {ds : List D} (h : Lk o ds) : isiF [o, tyTL] = some (.val (.bl true)) := by
  rcases h with rfl | rfl | rfl
  · exact G.isi2 rfl kit_tt kit_tl
  · exact G.isi2 rfl kit_lt kit_ll
  · exact G.isi2 rfl kit_lt kit_ll
theorem isi_g {o : O} {t c : String} {b : Bool} (h : o.tyS = some t) (h2 : kitB t c = some b) : isiF [o, .val (.ty c)] = some (.val (.bl b)) := by
  unfold isiF
  simp only [h, h2, Option.map_some]
theorem Lk.len {o : O} {ds : List D} (h : Lk o ds) : lenF [o] = some (.val (.int ds.length)) := by
  rcases h with rfl | rfl | rfl
  · rfl
  · rfl
  · show some (O.val (.int ((ds.map O.val).length : Int))) = _
    rw [List.length_map]
theorem Lk.idx {o : O} {ds : List D} (h : Lk o ds) {k : Nat} (hk : k < ds.length) : idxE o (.val (.int (0 + (k : Int)))) = some (.val ds[k]) := by
  have e : ∀ {α : Type} {xs : List α} (hx : k < xs.length), L2.atI xs (0 + (k : Int)) = some xs[k] := fun {α xs} hx => by
    unfold L2.atI ixN
    have h2 : (k : Int) < xs.length := by omega
    have h3 : ¬ ((k : Int) < 0) := by omega
    simp [h2, h3]
  rcases h with rfl | rfl | rfl
  · show (L2.atI ds _).map O.val = _
    rw [e hk]; rfl
  · show (L2.atI ds _).map O.val = _
    rw [e hk]; rfl
  · show itV (L2.atI (ds.map O.val) _) = _
    rw [e (by simpa using hk)]
    simp [itV]
theorem eq_self {d : D} : ∀ {n : Nat}, al n d = true → (∀ ds, d ≠ .tup ds ∧ d ≠ .lst ds) → eqC (.val d) (.val d) = some true := by
  intro n h h2
  cases n with
  | zero => cases d <;> simp [al] at h
  | succ n =>
    cases d with
    | non => rfl
    | bl b => cases b <;> rfl
    | int i => simp [eqC, fz, okD, D.eqv]
    | str x => simp [eqC]
    | tup ds => exact absurd rfl (h2 ds).1
    | lst ds => exact absurd rfl (h2 ds).2
    | _ => simp [al] at h
end G

set_option Elab.async false
set_option linter.all false
set_option maxRecDepth 100000
set_option maxHeartbeats 4000000
namespace G
open PySem PySem.Spec PyProof.Rows L2 PF
/-! ### what is drawn -/
def lstP (ps : List Post) : O := .lst (ps.map fun p => .val (pD p))
theorem lstP_eq (ps : List Post) : lstP ps = .lst ((ps.map pD).map O.val) := by unfold lstP; rw [List.map_map]; rfl
theorem dsL_lstP (ps : List Post) : (lstP ps).dsL = some (ps.map pD) := by rw [lstP_eq]; exact valsO_map _
theorem push_p {ps : List Post} {p : Post} (h : ps.length ≤ lim) : pushO (.val (pD p)) (lstP ps) = some (lstP (ps ++ [p])) := by
  unfold lstP
  rw [push_l (by simpa using h), List.map_append]
  rfl
theorem nin_cellsL (c : Cell) (cs : List Cell) : ninE (.val (cD c)) (lstC cs) = some (!cs.contains c) := by
  unfold ninE; rw [in_cellsL]; rfl
theorem pick2 {a b v : Int} (h0 : 0 ≤ v) (h1 : v < 2) : ∃ m, (m = a ∨ m = b) ∧ idxE (.lst [.val (.int a), .val (.int b)]) (.val (.int v)) = some (.val (.int m)) := by
  have e : v = 0 ∨ v = 1 := by omega
  rcases e with rfl | rfl
  · exact ⟨a, .inl rfl, rfl⟩
  · exact ⟨b, .inr rfl, rfl⟩
theorem mul_ch (d : D) (b : Bool) : mulG (.lst [.val d]) (.val (.int (if b then 1 else 0))) = some (.lst (if b then [.val d] else [])) := by
  unfold mulG
  cases b <;> rfl
theorem add_ch {cs : List Cell} {c : Cell} {b : Bool} (h : cs.length < lim) : addG (lstC cs) (.lst (if b then [.val (cD c)] else [])) = some (lstC (cs ++ if b then [c] else [])) := by
  have e : (O.lst (if b then [.val (cD c)] else [])) = lstC (if b then [c] else []) := by cases b <;> rfl
  rw [e, add_lc (by cases b <;> simp <;> omega)]
theorem tupF_L {o : O} {ds : List D} (h1 : o.dsT = none) (h : o.dsL = some ds) : tupF [o] = some (.val (.tup ds)) := by
  unfold tupF
  simp only [h1, h]
theorem ev_mv {i : Nat} {ρ : Sls} {R : O → Sls → Prop} {o : O} (h : ρ[i]? = some (some o)) (q : R o (ρ.set i none)) : Ev (mv i) ρ R := ⟨o, _, by unfold mv; rw [h], q⟩
theorem ev_bk {i : Nat} {ρ : Sls} {R : Unit → Sls → Prop} {o : O} (h : ρ[i]? = some none) (q : R () (ρ.set i (some o))) : Ev (bk i o) ρ R := ⟨(), _, by unfold bk; rw [h], q⟩
local macro_rules | `(tactic| walk_at "e") => `(tactic| (repeat (first | ((with_reducible refine ev_id ?_); first | (with_reducible refine ev_bind.mpr ?_) | (with_reducible refine ev_pure.mpr ?_) | (with_reducible refine ev_seqS.mpr ?_) | (with_reducible refine ev_ite.mpr ?_) | (with_reducible refine ev_ifB.mpr ?_) | (with_reducible refine ev_call.mpr ?_) | (with_reducible refine ev_defM.mpr ?_) | (with_reducible refine ev_lcF.mpr ?_) | (with_reducible refine ev_lc2F.mpr ?_) | (with_reducible refine ev_make.mpr ?_) | (with_reducible refine ev_frz.mpr ?_) | ((with_reducible refine ev_pk.mpr ?_); refine ⟨_, rfl, ?_⟩) | ((with_reducible refine ev_rdE ?_); refine ⟨_, rfl, ?_⟩) | ((with_reducible refine ev_put.mpr ?_); refine ⟨by decide, ?_⟩) | ((with_reducible refine ev_up.mpr ?_); refine ⟨_, _, rfl, rfl, ?_⟩) | (with_reducible refine ev_wp.mpr ?_) | ((with_reducible refine ev_of.mpr ?_); first | refine ⟨_, mul_c (by omega), ?_⟩ | refine ⟨_, mod_c (by omega), ?_⟩ | refine ⟨_, div_c (by omega) (by omega), ?_⟩ | refine ⟨_, pow_c (by decide), ?_⟩ | refine ⟨_, isi_ii _, ?_⟩ | refine ⟨_, isi_ib _, ?_⟩ | refine ⟨_, isi_tt _, ?_⟩ | refine ⟨_, isi_ss _, ?_⟩ | refine ⟨_, rfl, ?_⟩) | ((with_reducible refine ev_ifN ?_ ?_); decide) | ((with_reducible refine ev_ifL ?_ ?_); focus (unfold lim; simp; done)) | ((fail_if_success (with_reducible refine ev_ix2 ?_)); (fail_if_success (with_reducible refine ev_sub2 ?_)); (fail_if_success (with_reducible refine ev_aug2 ?_)); (fail_if_success (with_reducible refine ev_aug2V ?_)); (fail_if_success (with_reducible refine ev_whileK ?_)); (fail_if_success (with_reducible refine ev_of.mpr ?_)); (fail_if_success (with_reducible refine ev_if.mpr ?_)); (fail_if_success (with_reducible refine ev_up.mpr ?_)); (fail_if_success (with_reducible refine ev_rdE ?_)); (fail_if_success (with_reducible refine ev_forK ?_)); first | refine ev_bind.mpr ?_ | refine ev_pure.mpr ?_ | refine ev_put.mpr ⟨by decide, ?_⟩ | refine (ev_rd rfl).mpr ?_ | refine ev_up.mpr ⟨_, _, rfl, rfl, ?_⟩ | refine ev_seqS.mpr ?_ | refine ev_ite.mpr ?_)) | ((with_reducible refine ite_id ?_); first | refine if_tt ?_ | refine if_ff ?_))))
theorem ev_law_floor {ns : List Int} {i c k size : Int} (hi : 0 ≤ i) (hk : 0 ≤ k) (s0 : 1 ≤ size) (s1 : size ≤ 5) {R : O → Sls → Prop}
    (h : ∀ f i' c' k', Flo.Ok f → f.cs.length ≤ 8 → f.h ≤ size → f.w ≤ size → 0 ≤ i' → 0 ≤ k' → ∀ ρ, R (.val f.D) (some (rowO ns i' c' k') :: vI size :: ρ)) : Ev m__law_floor [some (rowO ns i c k), vI size] R := by
  unfold m__law_floor b__law_floor
  walk_at "e"
  refine ⟨_, _, rfl, ev_taken (by first | assumption | omega) (by first | decide | omega) (by first | decide | omega) (by first | assumption | omega) fun v1 i1 c1 k1 v01 v11 i01 k01 s21 s31 => ?_⟩
  walk_at "e"
  refine ⟨_, _, rfl, ev_taken (by first | assumption | omega) (by first | decide | omega) (by first | decide | omega) (by first | assumption | omega) fun v2 i2 c2 k2 v02 v12 i02 k02 s22 s32 => ?_⟩
  walk_at "e"
  refine ⟨_, _, rfl, ev_taken (by first | assumption | omega) (by first | decide | omega) (by first | decide | omega) (by first | assumption | omega) fun v3 i3 c3 k3 v03 v13 i03 k03 s23 s33 => ?_⟩
  walk_at "e"
  refine ev_if.mpr (if_in (by omega) ?_)
  walk_at "e"
  refine forL_inv (fun ds ρ => ∃ (i c k : Int) (ps : List Post) (s6 s7 : Option O), ρ = [some (rowO ns i c k), vI size, vI (1 + v1), vI (1 + v2), some (lstP ps), some (.lst []), s6, s7, none] ∧ 0 ≤ i ∧ 0 ≤ k ∧ ps.length + ds.length ≤ 3 ∧
    (∀ p ∈ ps, 0 ≤ p.1 ∧ p.1 < 1 + v1 ∧ 0 ≤ p.2.1 ∧ p.2.1 < 1 + v2 ∧ 1 ≤ p.2.2 ∧ p.2.2 ≤ 4) ∧ (ps.map pC).Nodup) ?_ ?_ _ _ ⟨_, _, _, [], _, _, rfl, i03, k03, by unfold rangeD; simp; omega, by simp, by simp⟩
  · rintro d ds ρ ⟨i, c, k, ps, s6, s7, rfl, hi, hk, hl, hp, hnd⟩
    rw [List.length_cons] at hl
    walk_at "e"
    refine ⟨_, _, rfl, ev_taken (by first | assumption | omega) (by first | decide | omega) (by first | decide | omega) (by first | assumption | omega) fun v4 i4 c4 k4 v04 v14 i04 k04 s24 s34 => ?_⟩
    walk_at "e"
    refine ⟨_, _, rfl, ev_taken (by first | assumption | omega) (by first | decide | omega) (by first | decide | omega) (by first | assumption | omega) fun v5 i5 c5 k5 v05 v15 i05 k05 s25 s35 => ?_⟩
    walk_at "e"
    refine ev_of.mpr ⟨_, dsL_lstP ps, ?_⟩
    refine ev_if.mpr (if_in (by simp; unfold lim; omega) ?_)
    refine ev_noX.mpr (ev_bind.mpr (ev_wp.mpr ?_))
    walk_at "e"
    refine lcL_map (p := fun _ => true) (e := fun d => match d with | .tup [.int a, .int b, .int _] => .val (cD (a, b)) | _ => .val .non) (fun x hx => ?_) ?_
    · obtain ⟨p, hp, rfl⟩ := List.mem_map.mp hx
      walk_at "e"
      exact ⟨rfl, fun _ => (by walk_at "e"; exact ⟨rfl, rfl⟩), fun h => absurd h (by simp)⟩
    · rw [filter_all]
      have e : (ps.map pD).map (fun d => match d with | .tup [.int a, .int b, .int _] => O.val (cD (a, b)) | _ => .val .non) = (ps.map pC).map fun c => O.val (cD c) := by
        rw [List.map_map, List.map_map]; rfl
      rw [e]
      refine ev_bind.mpr (ev_bk rfl ?_)
      walk_at "e"
      refine ev_of.mpr ⟨_, nin_cellsL (v4, v5) (ps.map pC), ?_⟩
      refine ite_in (fun q => ?_) (fun _ => ?_)
      · have q : (v4, v5) ∉ ps.map pC := by simpa using q
        walk_at "e"
        refine ⟨_, _, rfl, ev_taken (by first | assumption | omega) (by first | decide | omega) (by first | decide | omega) (by first | assumption | omega) fun v6 i6 c6 k6 v06 v16 i06 k06 s26 s36 => ?_⟩
        walk_at "e"
        refine ev_up.mpr ⟨_, _, rfl, push_p (p := (v4, v5, 1 + v6)) (by unfold lim; omega), ?_⟩
        walk_at "e"
        refine ⟨_, _, _, ps ++ [(v4, v5, 1 + v6)], _, _, rfl, by assumption, by assumption, by simp; omega, ?_, ?_⟩
        · intro p hp2
          rcases List.mem_append.mp hp2 with h | h
          · exact hp p h
          · have : p = (v4, v5, 1 + v6) := by simpa using h
            subst this
            simp only
            omega
        · rw [List.map_append, List.nodup_append]
          refine ⟨hnd, by simp, fun a ha b hb => ?_⟩
          have : b = (v4, v5) := by simpa [pC] using hb
          subst this
          exact fun e => q (e ▸ ha)
      · walk_at "e"
        exact ⟨_, _, _, ps, _, _, rfl, by assumption, by assumption, by omega, hp, hnd⟩
  · rintro ρ ⟨i, c, k, ps, s6, s7, rfl, hi, hk, hl, hp, hnd⟩
    simp at hl
    walk_at "e"
    refine ⟨_, _, rfl, ev_taken (by first | assumption | omega) (by first | decide | omega) (by first | decide | omega) (by first | assumption | omega) fun v7 i7 c7 k7 v07 v17 i07 k07 s27 s37 => ?_⟩
    walk_at "e"
    obtain ⟨m, hm, em⟩ := pick2 (a := 3) (b := 9) v07 v17
    refine ev_of.mpr ⟨_, em, ?_⟩
    walk_at "e"
    refine ⟨_, _, rfl, ev_taken (by first | assumption | omega) (by first | decide | omega) (by first | decide | omega) (by first | assumption | omega) fun v8 i8 c8 k8 v08 v18 i08 k08 s28 s38 => ?_⟩
    walk_at "e"
    refine ev_if.mpr (if_in (by omega) ?_)
    walk_at "e"
    refine forL_inv (fun ds ρ => ∃ (i c k : Int) (cs : List Cell) (s6 s7 : Option O), ρ = [some (rowO ns i c k), vI size, vI (1 + v1), vI (1 + v2), some (lstP ps), some (lstC cs), s6, s7, none] ∧ 0 ≤ i ∧ 0 ≤ k ∧ cs.length + ds.length ≤ 8 ∧
      (∀ p ∈ cs, 0 ≤ p.1 ∧ p.1 < 1 + v1 ∧ 0 ≤ p.2 ∧ p.2 < 1 + v2) ∧ cs.Nodup) ?_ ?_ _ _ ⟨_, _, _, [], _, _, rfl, i08, k08, by unfold rangeD; simp; omega, by simp, by simp⟩
    · rintro d ds ρ ⟨i, c, k, cs, s6, s7, rfl, hi, hk, hl2, hc, hcd⟩
      rw [List.length_cons] at hl2
      walk_at "e"
      refine ⟨_, _, rfl, ev_taken (by first | assumption | omega) (by first | decide | omega) (by first | decide | omega) (by first | assumption | omega) fun v9 i9 c9 k9 v09 v19 i09 k09 s29 s39 => ?_⟩
      walk_at "e"
      refine ⟨_, _, rfl, ev_taken (by first | assumption | omega) (by first | decide | omega) (by first | decide | omega) (by first | assumption | omega) fun v10 i10 c10 k10 v010 v110 i010 k010 s210 s310 => ?_⟩
      walk_at "e"
      refine ev_of.mpr ⟨_, nin_cellsL (v9, v10) cs, ?_⟩
      walk_at "e"
      refine ev_of.mpr ⟨_, mul_ch _ _, ?_⟩
      walk_at "e"
      refine ev_of.mpr ⟨_, add_ch (c := (v9, v10)) (by unfold lim; omega), ?_⟩
      walk_at "e"
      refine ⟨_, _, _, _, _, _, rfl, by assumption, by assumption, ?_, ?_, ?_⟩
      · cases cs.contains (v9, v10) <;> simp <;> omega
      · intro p hp2
        rcases List.mem_append.mp hp2 with h | h
        · exact hc p h
        · have : p = (v9, v10) := by
            cases hb : cs.contains (v9, v10) <;> rw [hb] at h <;> simp at h
            exact h
          subst this
          simp only
          omega
      · cases hb : cs.contains (v9, v10) with
        | true => simpa using hcd
        | false =>
          rw [List.nodup_append]
          refine ⟨hcd, by simp, fun a ha b hb2 => ?_⟩
          have : b = (v9, v10) := by simpa using hb2
          subst this
          intro e
          subst e
          rw [← Bool.not_eq_true, List.contains_iff_mem] at hb
          exact hb ha
    · rintro ρ ⟨i, c, k, cs, s6, s7, rfl, hi, hk, hl2, hc, hcd⟩
      simp at hl2
      walk_at "e"
      refine ev_of.mpr ⟨_, tupF_L rfl (dsL_lstP ps), ?_⟩
      walk_at "e"
      refine ev_of.mpr ⟨_, tupF_L rfl (dsL_cells cs), ?_⟩
      walk_at "e"
      exact h ⟨1 + v1, 1 + v2, ps, cs⟩ i c k ⟨by simp only; omega, by simp only; omega, by simp only; omega, by simp only; omega, hp, hnd, by simp only; omega, hc, hcd, by simp only; omega⟩ hl2 (by simp only; omega) (by simp only; omega) hi hk _
end G

set_option Elab.async false
set_option linter.all false
set_option maxRecDepth 100000
set_option maxHeartbeats 4000000
namespace G
open PySem PySem.Spec PyProof.Rows L2 PF
theorem ensow_at {v : Int} (h0 : 0 ≤ v) (h1 : v < 5) : ∃ g : Sg, idxE (.val (.str (PySem.Str.ofString "ensow"))) (.val (.int v)) = some (.val (.str g.S)) := by
  have e : v = 0 ∨ v = 1 ∨ v = 2 ∨ v = 3 ∨ v = 4 := by omega
  rcases e with rfl | rfl | rfl | rfl | rfl
  · exact ⟨.e, by rfl⟩
  · exact ⟨.n, by rfl⟩
  · exact ⟨.s, by rfl⟩
  · exact ⟨.o, by rfl⟩
  · exact ⟨.w, by rfl⟩
theorem Sg.S_len (g : Sg) : g.S.length = 1 := by rw [Sg.S_eq]; rfl
theorem str_eq {x y : Str} (h : x.cps.toList = y.cps.toList) : x = y := by
  cases x; cases y
  simp only [PySem.Str.mk.injEq]
  exact Array.toList_inj.mp h
theorem join_sun : ∀ l : List Sg, PySem.Str.join (PySem.Str.ofString "") (l.map Sg.S) = sunS l
  | [] => by rfl
  | [g] => by
    show g.S = _
    rw [Sg.S_eq]; rfl
  | g :: g2 :: l => by
    have ih := join_sun (g2 :: l)
    show (g.S ++ PySem.Str.ofString "") ++ PySem.Str.join (PySem.Str.ofString "") ((g2 :: l).map Sg.S) = _
    rw [ih]
    refine str_eq ?_
    have e : ∀ a b : Str, (a ++ b).cps.toList = a.cps.toList ++ b.cps.toList := fun a b => by
      show (a.cps ++ b.cps).toList = _
      simp
    rw [e, e, Sg.S_eq]
    have e2 : (PySem.Str.ofString "").cps.toList = [] := by decide +kernel
    rw [e2]
    simp [sunS]
theorem strsD_sun : ∀ l : List Sg, strsD (l.map fun g => D.str g.S) = some (l.map Sg.S)
  | [] => rfl
  | g :: l => by rw [List.map_cons, strsD, strsD_sun l]; rfl
theorem sum_sun : ∀ l : List Sg, ((l.map Sg.S).map (·.length)).sum = l.length
  | [] => rfl
  | g :: l => by
    have ih := sum_sun l
    rw [List.map_cons, List.map_cons, List.sum_cons, ih, Sg.S_len, List.length_cons]
    omega
theorem joinG_sun {l : List Sg} (h : l.length ≤ 1000) : joinG (PySem.Str.ofString "") (.lst ((l.map fun g => D.str g.S).map O.val)) = some (.val (.str (sunS l))) := by
  unfold joinG
  have e : (O.lst ((l.map fun g => D.str g.S).map O.val)).dsL = some (l.map fun g => D.str g.S) := valsO_map _
  have e1 : (O.lst ((l.map fun g => D.str g.S).map O.val)).dsT = none := rfl
  rw [e, e1, Option.none_or]
  simp only
  rw [strsD_sun]
  simp only
  have e3 : (PySem.Str.ofString "").length = 0 := by decide +kernel
  rw [if_pos (by rw [sum_sun, e3]; unfold lim; simp; omega)]
  rw [TL.join_eq, join_sun]
theorem lcL_inv0 {own : List Nat} {h : O → M Unit} {ft : M Bool} {fe : M O} {R : List O → Sls → Prop} (Iv : List D → List O → Sls → Prop) {ds : List D} {ρ : Sls} (h0 : Iv ds [] ρ) (hs : ∀ d ds os ρ, Iv (d :: ds) os ρ → Ev (h (.val d)) ρ fun _ ρ1 => Ev ft ρ1 fun b ρ2 => if b = true then Ev fe ρ2 fun o ρ3 => Iv ds (os ++ [o]) (wipeR ρ3 own) else Iv ds os (wipeR ρ2 own))
    (he : ∀ os ρ, Iv [] os ρ → R os ρ) : Ev (lcL own h ft fe ds) ρ R :=
  (lcL_inv (own := own) (h := h) (ft := ft) (fe := fe) (R := R) Iv hs he ds [] ρ h0).mono fun rest ρ' q => q
local macro_rules | `(tactic| walk_at "e") => `(tactic| (repeat (first | ((with_reducible refine ev_id ?_); first | (with_reducible refine ev_bind.mpr ?_) | (with_reducible refine ev_pure.mpr ?_) | (with_reducible refine ev_seqS.mpr ?_) | (with_reducible refine ev_ite.mpr ?_) | (with_reducible refine ev_ifB.mpr ?_) | (with_reducible refine ev_call.mpr ?_) | (with_reducible refine ev_defM.mpr ?_) | (with_reducible refine ev_lcF.mpr ?_) | (with_reducible refine ev_lc2F.mpr ?_) | (with_reducible refine ev_make.mpr ?_) | (with_reducible refine ev_frz.mpr ?_) | ((with_reducible refine ev_pk.mpr ?_); refine ⟨_, rfl, ?_⟩) | ((with_reducible refine ev_rdE ?_); refine ⟨_, rfl, ?_⟩) | ((with_reducible refine ev_put.mpr ?_); refine ⟨by decide, ?_⟩) | ((with_reducible refine ev_up.mpr ?_); refine ⟨_, _, rfl, rfl, ?_⟩) | (with_reducible refine ev_wp.mpr ?_) | ((with_reducible refine ev_of.mpr ?_); first | refine ⟨_, mul_c (by omega), ?_⟩ | refine ⟨_, mod_c (by omega), ?_⟩ | refine ⟨_, div_c (by omega) (by omega), ?_⟩ | refine ⟨_, pow_c (by decide), ?_⟩ | refine ⟨_, isi_ii _, ?_⟩ | refine ⟨_, isi_ib _, ?_⟩ | refine ⟨_, isi_tt _, ?_⟩ | refine ⟨_, isi_ss _, ?_⟩ | refine ⟨_, rfl, ?_⟩) | ((with_reducible refine ev_ifN ?_ ?_); decide) | ((with_reducible refine ev_ifL ?_ ?_); focus (unfold lim; simp; done)) | ((fail_if_success (with_reducible refine ev_ix2 ?_)); (fail_if_success (with_reducible refine ev_sub2 ?_)); (fail_if_success (with_reducible refine ev_aug2 ?_)); (fail_if_success (with_reducible refine ev_aug2V ?_)); (fail_if_success (with_reducible refine ev_whileK ?_)); (fail_if_success (with_reducible refine ev_of.mpr ?_)); (fail_if_success (with_reducible refine ev_if.mpr ?_)); (fail_if_success (with_reducible refine ev_up.mpr ?_)); (fail_if_success (with_reducible refine ev_rdE ?_)); (fail_if_success (with_reducible refine ev_forK ?_)); first | refine ev_bind.mpr ?_ | refine ev_pure.mpr ?_ | refine ev_put.mpr ⟨by decide, ?_⟩ | refine (ev_rd rfl).mpr ?_ | refine ev_up.mpr ⟨_, _, rfl, rfl, ?_⟩ | refine ev_seqS.mpr ?_ | refine ev_ite.mpr ?_)) | ((with_reducible refine ite_id ?_); first | refine if_tt ?_ | refine if_ff ?_))))
theorem ev_law_sun {ns : List Int} {i c k : Int} (hi : 0 ≤ i) (hk : 0 ≤ k) {R : O → Sls → Prop}
    (h : ∀ l i' c' k', l ≠ [] → l.length ≤ 6 → 0 ≤ i' → 0 ≤ k' → ∀ ρ, R (.val (.str (sunS l))) (some (rowO ns i' c' k') :: ρ)) : Ev m__law_sun [some (rowO ns i c k)] R := by
  unfold m__law_sun b__law_sun
  walk_at "e"
  refine ⟨_, _, rfl, ev_taken (by first | assumption | omega) (by first | decide | omega) (by first | decide | omega) (by first | assumption | omega) fun v1 i1 c1 k1 v01 v11 i01 k01 s21 s31 => ?_⟩
  walk_at "e"
  obtain ⟨m, hm, em⟩ := pick2 (a := 2) (b := 6) v01 v11
  refine ev_of.mpr ⟨_, em, ?_⟩
  walk_at "e"
  refine ⟨_, _, rfl, ev_taken (by first | assumption | omega) (by first | decide | omega) (by first | decide | omega) (by first | assumption | omega) fun v2 i2 c2 k2 v02 v12 i02 k02 s22 s32 => ?_⟩
  walk_at "e"
  refine ev_if.mpr (if_in (by omega) ?_)
  walk_at "e"
  refine ⟨by unfold rangeD lim; simp; omega, ?_⟩
  refine lcL_inv0 (fun ds os ρ => ∃ (l : List Sg) (i c k : Int), ρ = [some (rowO ns i c k), none] ∧ 0 ≤ i ∧ 0 ≤ k ∧ os = (l.map fun g => D.str g.S).map O.val ∧ ((l.length + ds.length : Nat) : Int) = 1 + v2) ⟨[], _, _, _, rfl, i02, k02, rfl, by unfold rangeD; simp; omega⟩ (fun d ds os ρ => ?_) (fun os ρ => ?_)
  · rintro ⟨l, i, c, k, rfl, hi, hk, rfl, hl⟩
    walk_at "e"
    refine ⟨_, _, rfl, ev_taken (by first | assumption | omega) (by first | decide | omega) (by first | decide | omega) (by first | assumption | omega) fun v3 i3 c3 k3 v03 v13 i03 k03 s23 s33 => ?_⟩
    walk_at "e"
    obtain ⟨g, eg⟩ := ensow_at v03 v13
    refine ev_of.mpr ⟨_, eg, ?_⟩
    refine ⟨l ++ [g], _, _, _, rfl, i03, k03, by simp, by simp at hl ⊢; omega⟩
  · rintro ⟨l, i, c, k, rfl, hi, hk, rfl, hl⟩
    refine ev_of.mpr ⟨_, joinG_sun (l := l) (by simp at hl; omega), ?_⟩
    walk_at "e"
    exact h l _ _ _ (by rintro rfl; simp at hl; omega) (by simp at hl; omega) hi hk _
end G

set_option Elab.async false
set_option linter.all false
set_option maxRecDepth 100000
set_option maxHeartbeats 4000000
namespace G
open PySem PySem.Spec PyProof.Rows L2 PF
theorem eq_nil (cs : List Cell) : eqC (lstC cs) (.lst []) = some (decide (cs = [])) := by
  have e := ne_nil cs
  unfold neC at e
  cases h : eqC (lstC cs) (.lst []) with
  | none => rw [h] at e; cases e
  | some b =>
    rw [h] at e
    simp only [Option.map_some, Option.some.injEq] at e
    congr 1
    by_cases q : cs = [] <;> simp [q] at e ⊢ <;> exact e
end G

set_option Elab.async false
set_option linter.all false
set_option maxRecDepth 100000
set_option maxHeartbeats 4000000
namespace G
open PySem PySem.Spec PyProof.Rows L2 PF
/-! ### shades of parts; mirrored and turned floors -/
/-- the floor with one post, with one cloth -/
def oneP (f : Flo) (p : Post) : Flo := ⟨f.h, f.w, [p], []⟩
def oneC (f : Flo) (c : Cell) : Flo := ⟨f.h, f.w, [], [c]⟩
theorem oneP_ok {f : Flo} (ok : f.Ok) {p : Post} (h : p ∈ f.ps) : (oneP f p).Ok :=
  ⟨ok.h0, ok.h1, ok.w0, ok.w1, fun q hq => by rw [show q = p by simpa [oneP] using hq]; exact ok.pin p h, by simp [oneP], by simp [oneP], by simp [oneP], by simp [oneP], by simp [oneP]⟩
theorem oneC_ok {f : Flo} (ok : f.Ok) {c : Cell} (h : c ∈ f.cs) : (oneC f c).Ok :=
  ⟨ok.h0, ok.h1, ok.w0, ok.w1, by simp [oneC], by simp [oneC], by simp [oneC], fun q hq => by rw [show q = c by simpa [oneC] using hq]; exact ok.cin c h, by simp [oneC], by simp [oneC]⟩
theorem shady_parts (f : Flo) (g : Sg) (c : Cell) : shady f g c = (f.ps.any (fun p => shady (oneP f p) g c) || f.cs.any fun q => shady (oneC f q) g c) := by
  rw [Bool.eq_iff_iff, Bool.or_eq_true, List.any_eq_true, List.any_eq_true]
  unfold shady oneP oneC
  simp only [Bool.or_eq_true, Bool.and_eq_true, List.any_eq_true, List.contains_iff_mem, List.any_cons, List.any_nil, Bool.or_false, List.not_mem_nil, false_or, List.mem_singleton, Bool.false_eq_true, and_false, or_false, decide_eq_true_eq]
  constructor
  · rintro (h | ⟨h1, p, h2, h3⟩)
    · exact .inr ⟨_, h, rfl⟩
    · exact .inl ⟨p, h2, h1, h3⟩
  · rintro (⟨p, h2, h1, h3⟩ | ⟨q, h, e⟩)
    · exact .inr ⟨h1, p, h2, h3⟩
    · exact .inl (e ▸ h)
/-- fewer posts, fewer cloths -/
def partF (f : Flo) (k : Nat) : Flo := ⟨f.h, f.w, f.ps.take 1, f.cs.take k⟩
theorem partF_ok {f : Flo} (ok : f.Ok) (k : Nat) : (partF f k).Ok :=
  ⟨ok.h0, ok.h1, ok.w0, ok.w1, fun p hp => ok.pin p (List.mem_of_mem_take hp), by
    have := ok.pnd.sublist (((List.take_sublist 1 f.ps)).map fun p => (p.1, p.2.1))
    exact this, by show (f.ps.take 1).length ≤ 4; rw [List.length_take]; have := ok.pn; omega, fun c hc => ok.cin c (List.mem_of_mem_take hc), ok.cnd.sublist (List.take_sublist k f.cs), by show (f.cs.take k).length ≤ 25; rw [List.length_take]; have := ok.cn; omega⟩
theorem shady_part {f : Flo} {k : Nat} {g : Sg} {c : Cell} (h : shady (partF f k) g c = true) : shady f g c = true := by
  unfold shady partF at h
  unfold shady
  simp only [Bool.or_eq_true, Bool.and_eq_true, List.any_eq_true, List.contains_iff_mem] at h ⊢
  rcases h with h | ⟨h1, p, h2, h3⟩
  · exact .inl (List.mem_of_mem_take h)
  · exact .inr ⟨h1, p, List.mem_of_mem_take h2, h3⟩
/-- the cells of a beat that the part leaves in the sun -/
def bareD (f o : Flo) (g : Sg) : List Cell := (f.cells.filter (shady f g)).filter fun c => !shady o g c
theorem bareD_df {f : Flo} (k : Nat) (g : Sg) : bareD f (partF f k) g = f.cells.filter (df f (partF f k) g) := by
  unfold bareD
  rw [List.filter_filter]
  refine List.filter_congr fun c hc => ?_
  unfold df sh
  rw [show (partF f k).cells = f.cells from rfl, List.contains_iff_mem.mpr hc, Bool.true_and, Bool.true_and]
  cases h1 : shady f g c with
  | true => cases shady (partF f k) g c <;> rfl
  | false =>
    cases h2 : shady (partF f k) g c with
    | true => rw [shady_part h2] at h1; cases h1
    | false => rfl
def dueR (f o : Flo) : Nat → List Sg → List (Nat × Cell)
  | _, [] => []
  | b, g :: gs => (bareD f o g).map (fun c => (b, c)) ++ dueR f o (b + 1) gs
theorem dueR_first {f : Flo} (ok : f.Ok) (k : Nat) : ∀ (l : List Sg) (b : Nat), (dueR f (partF f k) b l).head? = firstD f (partF f k) b l
  | [], b => rfl
  | g :: l, b => by
    rw [dueR, firstD, bareD_df]
    have hc : (f.cells ++ (partF f k).cells).filter (df f (partF f k) g) = f.cells.filter (df f (partF f k) g) ++ f.cells.filter (df f (partF f k) g) := by
      rw [show (partF f k).cells = f.cells from rfl, List.filter_append]
    have sd : (f.cells.filter (df f (partF f k) g)).Pairwise cLe := (cells_sorted ok).filter _
    cases h : f.cells.filter (df f (partF f k) g) with
    | nil =>
      rw [h] at hc
      rw [some_none hc]
      exact dueR_first ok k l (b + 1)
    | cons x xs =>
      rw [h] at hc sd
      rw [some_some ok (partF_ok ok k) hc]
      show some (b, x) = some (b, minC x (xs ++ x :: xs))
      congr 2
      obtain ⟨h1, h2⟩ := minC_spec (xs ++ x :: xs) x
      have a1 : cLe x (minC x (xs ++ x :: xs)) := by
        rcases List.mem_cons.mp h1 with e | e
        · rw [e]; unfold cLe; omega
        · rcases List.mem_append.mp e with e | e
          · exact (List.pairwise_cons.mp sd).1 _ e
          · rcases List.mem_cons.mp e with e | e
            · rw [e]; unfold cLe; omega
            · exact (List.pairwise_cons.mp sd).1 _ e
      have a2 := h2 x (by simp)
      unfold cLe at a1 a2
      exact Prod.ext (by omega) (by omega)
/-! a floor turned -/
structure Tn (f f' : Flo) (m m' : Cell → Cell) (W : Sg → Sg) : Prop where
  inv1 : ∀ c, m (m' c) = c
  inv2 : ∀ c, m' (m c) = c
  cel : ∀ c, (0 ≤ (m c).1 ∧ (m c).1 < f'.h ∧ 0 ≤ (m c).2 ∧ (m c).2 < f'.w) ↔ (0 ≤ c.1 ∧ c.1 < f.h ∧ 0 ≤ c.2 ∧ c.2 < f.w)
  dir : ∀ (g : Sg) (c : Cell) (k : Int), m (c.1 - k * g.d.1, c.2 - k * g.d.2) = ((m c).1 - k * (W g).d.1, (m c).2 - k * (W g).d.2)
  o : ∀ g, W g = .o ↔ g = .o
  ps : f'.ps = f.ps.map fun p => ((m (p.1, p.2.1)).1, (m (p.1, p.2.1)).2, p.2.2)
  cs : f'.cs = f.cs.map m
  b : 1 ≤ f'.h ∧ f'.h ≤ 5 ∧ 1 ≤ f'.w ∧ f'.w ≤ 5
section
variable {f f' : Flo} {m m' : Cell → Cell} {W : Sg → Sg}
theorem Tn.inj (t : Tn f f' m m' W) {a b : Cell} (h : m a = m b) : a = b := by
  have := congrArg m' h
  rwa [t.inv2, t.inv2] at this
theorem Tn.ok (t : Tn f f' m m' W) (ok : f.Ok) : f'.Ok where
  h0 := t.b.1
  h1 := t.b.2.1
  w0 := t.b.2.2.1
  w1 := t.b.2.2.2
  pin := fun p hp => by
    rw [t.ps] at hp
    obtain ⟨q, hq, rfl⟩ := List.mem_map.mp hp
    have a := ok.pin q hq
    have c := (t.cel (q.1, q.2.1)).mpr ⟨a.1, a.2.1, a.2.2.1, a.2.2.2.1⟩
    exact ⟨c.1, c.2.1, c.2.2.1, c.2.2.2, a.2.2.2.2⟩
  pnd := by
    rw [t.ps, List.map_map]
    have h := ok.pnd
    have e : (f.ps.map ((fun p => (p.1, p.2.1)) ∘ fun p : Post => ((m (p.1, p.2.1)).1, (m (p.1, p.2.1)).2, p.2.2))) = (f.ps.map fun p => (p.1, p.2.1)).map m := by
      rw [List.map_map]
      rfl
    rw [e]
    exact List.Pairwise.map _ (fun a b hab e => hab (t.inj e)) h
  pn := by rw [t.ps, List.length_map]; exact ok.pn
  cin := fun c hc => by
    rw [t.cs] at hc
    obtain ⟨q, hq, rfl⟩ := List.mem_map.mp hc
    exact (t.cel q).mpr (ok.cin q hq)
  cnd := by
    rw [t.cs]
    exact List.Pairwise.map _ (fun a b hab e => hab (t.inj e)) ok.cnd
  cn := by rw [t.cs, List.length_map]; exact ok.cn
theorem Tn.beside (t : Tn f f' m m' W) (g : Sg) (c : Cell) (tall : Int) : beside (W g) (m c) tall = (beside g c tall).map m := by
  unfold G.beside
  rw [List.map_map]
  refine List.map_congr_left fun k _ => ?_
  exact (t.dir g c (1 + (k : Int))).symm
theorem Tn.has (t : Tn f f' m m' W) (L : List Cell) (c : Cell) : (L.map m).contains (m c) = L.contains c := by
  rw [Bool.eq_iff_iff, List.contains_iff_mem, List.contains_iff_mem, List.mem_map]
  exact ⟨fun ⟨a, h, e⟩ => t.inj e ▸ h, fun h => ⟨c, h, rfl⟩⟩
theorem Tn.shady (t : Tn f f' m m' W) (g : Sg) (c : Cell) : shady f' (W g) (m c) = shady f g c := by
  unfold G.shady
  have e1 := t.dir g c 1
  rw [Int.one_mul, Int.one_mul, Int.one_mul, Int.one_mul] at e1
  rw [← e1, t.cs, t.has, t.ps, List.any_map]
  congr 1
  have e2 : decide (W g ≠ .o) = decide (g ≠ .o) := by
    rw [Bool.eq_iff_iff, decide_eq_true_eq, decide_eq_true_eq]
    exact not_congr (t.o g)
  rw [e2]
  congr 2
  funext p
  show (G.beside (W g) (m c) p.2.2).contains (m (p.1, p.2.1)) = _
  rw [t.beside, t.has]
end
theorem srt_perm {cs ds : List Cell} (pm : ds.Perm cs) (sd : ds.Pairwise cLe) : srtD (cs.map cD) = ds.map cD := by
  unfold srtD
  have e : (cs.map cD).mergeSort (PySem.W.dataLe false toPy) = (cs.mergeSort fun a b => !cLt b a).map cD := (List.map_mergeSort fun a _ b _ => (dle_c a b).symm).symm
  rw [e]
  congr 1
  have tr : ∀ a b c : Cell, (!cLt b a) = true → (!cLt c b) = true → (!cLt c a) = true := fun a b c h1 h2 => by
    rw [Bool.not_eq_true'] at h1 h2 ⊢
    have h1 := cLt_no.mp h1
    have h2 := cLt_no.mp h2
    refine cLt_no.mpr ?_
    unfold cLe at *
    omega
  have tot : ∀ a b : Cell, ((!cLt b a) || (!cLt a b)) = true := fun a b => by
    rw [Bool.or_eq_true, Bool.not_eq_true', Bool.not_eq_true']
    by_cases h : cLe a b
    · exact .inl (cLt_no.mpr h)
    · refine .inr (cLt_no.mpr ?_)
      unfold cLe at *
      omega
  have sp := List.pairwise_mergeSort tr tot cs
  refine List.Perm.eq_of_pairwise (le := cLe) (fun a b _ _ h1 h2 => ?_) (sp.imp fun {a b} h => cLt_no.mp (by simpa using h)) sd ((List.mergeSort_perm cs _).trans pm.symm)
  unfold cLe at h1 h2
  exact Prod.ext (by omega) (by omega)
theorem Tn.shade {f f' : Flo} {m m' : Cell → Cell} {W : Sg → Sg} (t : Tn f f' m m' W) (ok : f.Ok) (g : Sg) : srtD (((f.cells.filter (G.shady f g)).map m).map cD) = (f'.cells.filter (G.shady f' (W g))).map cD := by
  have ok' := t.ok ok
  refine srt_perm ?_ ((cells_sorted ok').filter _)
  refine (List.perm_ext_iff_of_nodup ((cells_nodup ok').filter _) (List.Pairwise.map _ (fun a b hab e => hab (t.inj e)) ((cells_nodup ok).filter _))).mpr fun c => ?_
  rw [List.mem_filter, List.mem_map]
  constructor
  · rintro ⟨h1, h2⟩
    refine ⟨m' c, ?_, t.inv1 c⟩
    rw [← t.inv1 c] at h1 h2
    rw [List.mem_filter]
    exact ⟨(mem_cells ok _).mpr ((t.cel _).mp ((mem_cells ok' _).mp h1)), by rw [← t.shady]; exact h2⟩
  · rintro ⟨a, ha, rfl⟩
    rw [List.mem_filter] at ha
    exact ⟨(mem_cells ok' _).mpr ((t.cel _).mpr ((mem_cells ok _).mp ha.1)), by rw [t.shady]; exact ha.2⟩
end G

set_option Elab.async false
set_option linter.all false
set_option maxRecDepth 100000
set_option maxHeartbeats 4000000
namespace G
open PySem PySem.Spec PyProof.Rows L2 PF
def mirC (w : Int) (c : Cell) : Cell := (c.1, w - 1 - c.2)
def mirG : Sg → Sg
  | .e => .w
  | .w => .e
  | g => g
def trC (c : Cell) : Cell := (c.2, c.1)
def trG : Sg → Sg
  | .e => .s
  | .s => .e
  | .n => .w
  | .w => .n
  | .o => .o
def mirF (f : Flo) : Flo := ⟨f.h, f.w, f.ps.map fun p => (p.1, f.w - 1 - p.2.1, p.2.2), f.cs.map (mirC f.w)⟩
def trF (f : Flo) : Flo := ⟨f.w, f.h, f.ps.map fun p => (p.2.1, p.1, p.2.2), f.cs.map trC⟩
theorem tn_mir {f : Flo} (ok : f.Ok) : Tn f (mirF f) (mirC f.w) (mirC f.w) mirG where
  inv1 := fun c => Prod.ext rfl (by simp only [mirC]; omega)
  inv2 := fun c => Prod.ext rfl (by simp only [mirC]; omega)
  cel := fun c => by simp only [mirC, mirF]; omega
  dir := fun g c k => by cases g <;> simp only [mirC, mirG, Sg.d] <;> refine Prod.ext ?_ ?_ <;> simp only <;> omega
  o := fun g => by cases g <;> simp [mirG]
  ps := rfl
  cs := rfl
  b := ⟨ok.h0, ok.h1, ok.w0, ok.w1⟩
theorem tn_tr {f : Flo} (ok : f.Ok) : Tn f (trF f) trC trC trG where
  inv1 := fun c => rfl
  inv2 := fun c => rfl
  cel := fun c => by simp only [trC, trF]; omega
  dir := fun g c k => by cases g <;> simp only [trC, trG, Sg.d] <;> refine Prod.ext ?_ ?_ <;> simp only <;> omega
  o := fun g => by cases g <;> simp [trG]
  ps := rfl
  cs := rfl
  b := ⟨ok.w0, ok.w1, ok.h0, ok.h1⟩
def mirPD (w : Int) : D → D
  | .tup [.int a, .int b, .int c] => .tup [.int a, .int (w - 1 - b), .int c]
  | d => d
def mirCD (w : Int) : D → D
  | .tup [.int a, .int b] => .tup [.int a, .int (w - 1 - b)]
  | d => d
def trPD : D → D
  | .tup [.int a, .int b, .int c] => .tup [.int b, .int a, .int c]
  | d => d
def trCD : D → D
  | .tup [.int a, .int b] => .tup [.int b, .int a]
  | d => d
local macro_rules | `(tactic| walk_at "e") => `(tactic| (repeat (first | ((with_reducible refine ev_id ?_); first | (with_reducible refine ev_bind.mpr ?_) | (with_reducible refine ev_pure.mpr ?_) | (with_reducible refine ev_seqS.mpr ?_) | (with_reducible refine ev_ite.mpr ?_) | (with_reducible refine ev_ifB.mpr ?_) | (with_reducible refine ev_call.mpr ?_) | (with_reducible refine ev_defM.mpr ?_) | (with_reducible refine ev_lcF.mpr ?_) | (with_reducible refine ev_lc2F.mpr ?_) | (with_reducible refine ev_make.mpr ?_) | (with_reducible refine ev_frz.mpr ?_) | ((with_reducible refine ev_pk.mpr ?_); refine ⟨_, rfl, ?_⟩) | ((with_reducible refine ev_rdE ?_); refine ⟨_, rfl, ?_⟩) | ((with_reducible refine ev_put.mpr ?_); refine ⟨by decide, ?_⟩) | ((with_reducible refine ev_up.mpr ?_); refine ⟨_, _, rfl, rfl, ?_⟩) | (with_reducible refine ev_wp.mpr ?_) | ((with_reducible refine ev_of.mpr ?_); first | refine ⟨_, mul_c (by omega), ?_⟩ | refine ⟨_, mod_c (by omega), ?_⟩ | refine ⟨_, div_c (by omega) (by omega), ?_⟩ | refine ⟨_, pow_c (by decide), ?_⟩ | refine ⟨_, isi_ii _, ?_⟩ | refine ⟨_, isi_ib _, ?_⟩ | refine ⟨_, isi_tt _, ?_⟩ | refine ⟨_, isi_ss _, ?_⟩ | refine ⟨_, rfl, ?_⟩) | ((with_reducible refine ev_ifN ?_ ?_); decide) | ((with_reducible refine ev_ifL ?_ ?_); focus (unfold lim; simp; done)) | ((fail_if_success (with_reducible refine ev_ix2 ?_)); (fail_if_success (with_reducible refine ev_sub2 ?_)); (fail_if_success (with_reducible refine ev_aug2 ?_)); (fail_if_success (with_reducible refine ev_aug2V ?_)); (fail_if_success (with_reducible refine ev_whileK ?_)); (fail_if_success (with_reducible refine ev_of.mpr ?_)); (fail_if_success (with_reducible refine ev_if.mpr ?_)); (fail_if_success (with_reducible refine ev_up.mpr ?_)); (fail_if_success (with_reducible refine ev_rdE ?_)); (fail_if_success (with_reducible refine ev_forK ?_)); first | refine ev_bind.mpr ?_ | refine ev_pure.mpr ?_ | refine ev_put.mpr ⟨by decide, ?_⟩ | refine (ev_rd rfl).mpr ?_ | refine ev_up.mpr ⟨_, _, rfl, rfl, ?_⟩ | refine ev_seqS.mpr ?_ | refine ev_ite.mpr ?_)) | ((with_reducible refine ite_id ?_); first | refine if_tt ?_ | refine if_ff ?_))))
theorem ev_turn0 {f : Flo} (ok : f.Ok) {R : O → Sls → Prop} (h : ∀ ρ, R (.val (mirF f).D) (vD f.D :: vI 0 :: ρ)) : Ev m__law_turned [vD f.D, vI 0] R := by
  unfold m__law_turned b__law_turned
  have pn := ok.pn; have cn := ok.cn
  walk_at "e"
  refine ⟨by rw [List.length_map]; unfold lim; omega, ?_⟩
  refine ev_at10 rfl ?_
  refine lcL_map (p := fun _ => true) (e := fun d => O.val (mirPD f.w d)) (fun x hx => ?_) ?_
  · obtain ⟨p, hp, rfl⟩ := List.mem_map.mp hx
    walk_at "e"
    refine ⟨rfl, fun _ => ?_, fun h => absurd h (by simp)⟩
    walk_at "e"
    refine ⟨?_, rfl⟩
    rw [fzs, fz, fzs, fz, fzs, fz, fzs]
    rfl
  rw [filter_all]
  have e1 : ((f.ps.map pD).map fun d => O.val (mirPD f.w d)) = ((mirF f).ps.map pD).map O.val := by
    unfold mirF
    rw [List.map_map, List.map_map, List.map_map]
    rfl
  rw [e1]
  (refine ev_at10 rfl ?_); walk_at "e"
  refine ev_of.mpr ⟨_, tupF_L rfl (valsO_map _), ?_⟩
  (refine ev_at10 rfl ?_); walk_at "e"
  refine ⟨by rw [List.length_map]; unfold lim; omega, ?_⟩
  refine ev_at10 rfl ?_
  refine lcL_map (p := fun _ => true) (e := fun d => O.val (mirCD f.w d)) (fun x hx => ?_) ?_
  · obtain ⟨p, hp, rfl⟩ := List.mem_map.mp hx
    walk_at "e"
    refine ⟨rfl, fun _ => ?_, fun h => absurd h (by simp)⟩
    walk_at "e"
    refine ⟨?_, rfl⟩
    rw [fzs, fz, fzs, fz, fzs]
    rfl
  rw [filter_all]
  have e2 : ((f.cs.map cD).map fun d => O.val (mirCD f.w d)) = ((mirF f).cs.map cD).map O.val := by
    unfold mirF
    rw [List.map_map, List.map_map, List.map_map]
    rfl
  rw [e2]
  (refine ev_at10 rfl ?_); walk_at "e"
  refine ev_of.mpr ⟨_, tupF_L rfl (valsO_map _), ?_⟩
  (refine ev_at10 rfl ?_); walk_at "e"
  exact h _
theorem ev_turn1 {f : Flo} (ok : f.Ok) {R : O → Sls → Prop} (h : ∀ ρ, R (.val (trF f).D) (vD f.D :: vI 1 :: ρ)) : Ev m__law_turned [vD f.D, vI 1] R := by
  unfold m__law_turned b__law_turned
  have pn := ok.pn; have cn := ok.cn
  walk_at "e"
  refine ⟨by rw [List.length_map]; unfold lim; omega, ?_⟩
  refine ev_at10 rfl ?_
  refine lcL_map (p := fun _ => true) (e := fun d => O.val (trPD d)) (fun x hx => ?_) ?_
  · obtain ⟨p, hp, rfl⟩ := List.mem_map.mp hx
    walk_at "e"
    refine ⟨rfl, fun _ => ?_, fun h => absurd h (by simp)⟩
    walk_at "e"
    refine ⟨?_, rfl⟩
    rw [fzs, fz, fzs, fz, fzs, fz, fzs]
    rfl
  rw [filter_all]
  have e1 : ((f.ps.map pD).map fun d => O.val (trPD d)) = ((trF f).ps.map pD).map O.val := by
    unfold trF
    rw [List.map_map, List.map_map, List.map_map]
    rfl
  rw [e1]
  (refine ev_at10 rfl ?_); walk_at "e"
  refine ev_of.mpr ⟨_, tupF_L rfl (valsO_map _), ?_⟩
  (refine ev_at10 rfl ?_); walk_at "e"
  refine ⟨by rw [List.length_map]; unfold lim; omega, ?_⟩
  refine ev_at10 rfl ?_
  refine lcL_map (p := fun _ => true) (e := fun d => O.val (trCD d)) (fun x hx => ?_) ?_
  · obtain ⟨p, hp, rfl⟩ := List.mem_map.mp hx
    walk_at "e"
    refine ⟨rfl, fun _ => ?_, fun h => absurd h (by simp)⟩
    walk_at "e"
    refine ⟨?_, rfl⟩
    rw [fzs, fz, fzs, fz, fzs]
    rfl
  rw [filter_all]
  have e2 : ((f.cs.map cD).map fun d => O.val (trCD d)) = ((trF f).cs.map cD).map O.val := by
    unfold trF
    rw [List.map_map, List.map_map, List.map_map]
    rfl
  rw [e2]
  (refine ev_at10 rfl ?_); walk_at "e"
  refine ev_of.mpr ⟨_, tupF_L rfl (valsO_map _), ?_⟩
  (refine ev_at10 rfl ?_); walk_at "e"
  exact h _
end G

set_option Elab.async false
set_option linter.all false
set_option maxRecDepth 100000
set_option maxHeartbeats 4000000
namespace G
open PySem PySem.Spec PyProof.Rows L2 PF
theorem add_lw {xs ys : List D} (h : xs.length + ys.length ≤ lim) : addG (.lst (xs.map O.val)) (.lst (ys.map O.val)) = some (.lst ((xs ++ ys).map O.val)) := by
  have e : addG (.lst (xs.map O.val)) (.lst (ys.map O.val)) = match (O.lst (xs.map O.val)).dsL, (O.lst (ys.map O.val)).dsL with
    | some xs, some ys => if xs.length + ys.length ≤ lim then some (.lst ((xs ++ ys).map .val)) else none
    | _, _ => none := rfl
  rw [e, show (O.lst (xs.map O.val)).dsL = some xs from valsO_map _, show (O.lst (ys.map O.val)).dsL = some ys from valsO_map _]
  simp only
  rw [if_pos h]
theorem fzs_mapW : ∀ ds : List D, fzs (ds.map O.val) = ds
  | [] => rfl
  | d :: ds => by rw [List.map_cons, fzs, fz, fzs_mapW ds]
theorem cut_tkW {α : Type} (xs : List α) (n : Nat) : cutL xs none (some (n : Int)) = xs.take n := by
  unfold cutL
  rw [HT.sIx_none, HT.sIx_nat, List.drop_zero, Nat.sub_zero]
  by_cases h : n ≤ xs.length
  · rw [Nat.min_eq_left h]
  · rw [Nat.min_eq_right (by omega), List.take_of_length_le (Nat.le_refl _), List.take_of_length_le (by omega)]
theorem cells_selfW : ∀ cs : List Cell, D.eqvs (cs.map cD) (cs.map cD) = true
  | [] => by rw [List.map_nil, D.eqvs]
  | c :: cs => by rw [List.map_cons, D.eqvs, cells_selfW cs, cD_eqv]; simp
theorem ne_lstW (cs : List Cell) : neC (lstC cs) (lstC cs) = some false := by
  have e : fz (lstC cs) = .lst (cs.map cD) := by
    show D.lst (fzs (cs.map fun c => O.val (cD c))) = _
    rw [show (cs.map fun c => O.val (cD c)) = (cs.map cD).map O.val by rw [List.map_map]; rfl, fzs_mapW]
  have hx : neC (lstC cs) (lstC cs) = (if okD 16 (fz (lstC cs)) && okD 16 (fz (lstC cs)) then some ((fz (lstC cs)).eqv (fz (lstC cs))) else none).map (!·) := rfl
  have ho : okD 16 (D.lst (cs.map cD)) = true := by
    rw [okD, List.all_eq_true]
    intro x hx
    obtain ⟨c, _, rfl⟩ := List.mem_map.mp hx
    exact cD_ok c 14
  rw [hx, e, ho, D.eqv, cells_selfW]
  rfl
theorem ne_dueW (x : Option (Nat × Cell)) : neC (.val (dueD x)) (.val (dueD x)) = some false := by
  cases x with
  | none => rfl
  | some p =>
    obtain ⟨b, c1, c2⟩ := p
    have e : neC (.val (dueD (some (b, c1, c2)))) (.val (dueD (some (b, c1, c2)))) = some (!((D.tup [.int b, .tup [.int c1, .int c2]]).eqv (.tup [.int b, .tup [.int c1, .int c2]]))) := rfl
    rw [e]
    simp [D.eqv, D.eqvs]
theorem cells_gridP {f : Flo} (ok : f.Ok) {c : Cell} (h : c ∈ f.cells) : c ∈ gridP := by
  have hb := (mem_cells ok c).mp h
  have a := ok.h1; have b := ok.w1
  obtain ⟨x, y⟩ := c
  unfold gridP
  refine List.mem_map.mpr ⟨x.toNat * 5 + y.toNat, List.mem_range.mpr (by simp only at hb; omega), ?_⟩
  simp only at hb
  refine Prod.ext ?_ ?_ <;> simp only <;> omega
theorem celsOfW : ∀ {cs : List Cell}, (∀ c ∈ cs, c ∈ gridP) → celsOf (cs.map cD) = some cs
  | [], _ => rfl
  | c :: cs, h => by
    have e : celOf (cD c) = some c := by
      obtain ⟨x, y⟩ := c
      show (if (x, y) ∈ gridP then some (x, y) else none) = _
      rw [if_pos (h (x, y) (by simp))]
    rw [List.map_cons, celsOf, e, celsOfW fun x hx => h x (by simp [hx])]
theorem srtSetW {f : Flo} (ok : f.Ok) {p : Cell → Bool} {acc : List Cell} (h : ∀ c, c ∈ acc ↔ c ∈ f.cells.filter p) : ((lstC acc).dsL.bind celsOf).map (fun cs => O.lst (((srtC cs).map celD).map O.val)) = some (lstC (f.cells.filter p)) := by
  have hg : ∀ c ∈ acc, c ∈ gridP := fun c hc => cells_gridP ok (List.mem_filter.mp ((h c).mp hc)).1
  rw [dsL_cells, Option.bind_some, celsOfW hg]
  have sd : (f.cells.filter p).Pairwise cLe := (cells_sorted ok).filter _
  have e := srtC_of (L := f.cells.filter p) (cs := acc) hg ((cells_nodup ok).filter _) (fun c => (h c).symm) (sd.imp_of_mem fun {a b} ha hb hab => by
    have h1 := (mem_cells ok a).mp (List.mem_filter.mp ha).1
    have h2 := (mem_cells ok b).mp (List.mem_filter.mp hb).1
    have b1 := ok.h1; have b2 := ok.w1
    unfold cLe at hab
    omega)
  rw [Option.map_some, ← e, lstC_eq]
  rfl
theorem sg_atW {l : List Sg} {n : Nat} (hn : n < l.length) {g : Sg} (h : l[((n : Int) % (l.length : Int)).toNat]? = some g) : l[n]? = some g := by
  rw [← Int.natCast_emod, Int.toNat_natCast, Nat.mod_eq_of_lt hn] at h
  exact h
def dD (x : Nat × Cell) : D := .tup [.int x.1, cD x.2]
theorem dict_at0 (g : Sg) : idxE (.val (.dct false (sgD (PySem.Str.ofString "ensow")) (sgD (PySem.Str.ofString "wnsoe")))) (.val (.str g.S)) = some (.val (.str (mirG g).S)) := by
  cases g <;> rfl
theorem dict_at1 (g : Sg) : idxE (.val (.dct false (sgD (PySem.Str.ofString "ensow")) (sgD (PySem.Str.ofString "sweon")))) (.val (.str g.S)) = some (.val (.str (trG g).S)) := by
  cases g <;> rfl
theorem idx_0W (d : D) (os : List O) : idxE (.lst (.val d :: os)) (.val (.int 0)) = some (.val d) := by
  show itV (L2.atI (O.val d :: os) 0) = _
  have e : L2.atI (O.val d :: os) 0 = some (O.val d) := by
    unfold L2.atI ixN
    have h1 : (0 : Int) < ((O.val d :: os).length : Int) := by rw [List.length_cons]; omega
    simp [h1]
  rw [e]
  rfl
theorem due_at0 (due : List (Nat × Cell)) : idxE (.lst ((due.map dD ++ [D.non]).map O.val)) (.val (.int 0)) = some (.val (dueD due.head?)) := by
  cases due with
  | nil => rfl
  | cons x r =>
    have e : ∀ (o : O) (os : List O), idxE (.lst (o :: os)) (.val (.int 0)) = idxE (.lst (o :: os)) (.val (.int 0)) := fun _ _ => rfl
    obtain ⟨b, c⟩ := x
    rw [List.map_cons, List.cons_append, List.map_cons]
    exact idx_0W _ _
theorem srtF_lW {ds : List D} (h : srtOk ds = true) : srtF [.lst (ds.map O.val)] = some (.lst ((srtD ds).map O.val)) := by
  have e : (O.lst (ds.map O.val)).dsL = some ds := valsO_map ds
  have e2 : (O.lst (ds.map O.val)).keysT = none := rfl
  unfold srtF
  simp only [e, e2, h, if_true]
theorem srt_turn {f f' : Flo} {m m' : Cell → Cell} {W : Sg → Sg} (t : Tn f f' m m' W) (ok : f.Ok) (g : Sg) : srtF [.lst ((((f.cells.filter (shady f g)).map m).map cD).map O.val)] = some (lstC (f'.cells.filter (shady f' (W g)))) := by
  rw [srtF_lW (srtOk_c (by rw [List.length_map]; have := cells_len ok; have := List.length_filter_le (shady f g) f.cells; unfold lim; omega)), t.shade ok g, lstC_eq]
def s10W (n : Nat) (F : List Cell) : O := if n = 0 then .lst ((F.map cD).map O.val) else .val (.lst (F.map cD))
local macro_rules | `(tactic| walk_at "e") => `(tactic| (repeat (first | ((with_reducible refine ev_id ?_); first | (with_reducible refine ev_bind.mpr ?_) | (with_reducible refine ev_pure.mpr ?_) | (with_reducible refine ev_seqS.mpr ?_) | (with_reducible refine ev_ite.mpr ?_) | (with_reducible refine ev_ifB.mpr ?_) | (with_reducible refine ev_call.mpr ?_) | (with_reducible refine ev_defM.mpr ?_) | (with_reducible refine ev_lcF.mpr ?_) | (with_reducible refine ev_lc2F.mpr ?_) | (with_reducible refine ev_make.mpr ?_) | (with_reducible refine ev_frz.mpr ?_) | ((with_reducible refine ev_pk.mpr ?_); refine ⟨_, rfl, ?_⟩) | ((with_reducible refine ev_rdE ?_); refine ⟨_, rfl, ?_⟩) | ((with_reducible refine ev_put.mpr ?_); refine ⟨by decide, ?_⟩) | ((with_reducible refine ev_up.mpr ?_); refine ⟨_, _, rfl, rfl, ?_⟩) | (with_reducible refine ev_wp.mpr ?_) | ((with_reducible refine ev_of.mpr ?_); first | refine ⟨_, mul_c (by omega), ?_⟩ | refine ⟨_, mod_c (by omega), ?_⟩ | refine ⟨_, div_c (by omega) (by omega), ?_⟩ | refine ⟨_, pow_c (by decide), ?_⟩ | refine ⟨_, isi_ii _, ?_⟩ | refine ⟨_, isi_ib _, ?_⟩ | refine ⟨_, isi_tt _, ?_⟩ | refine ⟨_, isi_ss _, ?_⟩ | refine ⟨_, rfl, ?_⟩) | ((with_reducible refine ev_ifN ?_ ?_); decide) | ((with_reducible refine ev_ifL ?_ ?_); focus (unfold lim; simp; done)) | ((fail_if_success (with_reducible refine ev_ix2 ?_)); (fail_if_success (with_reducible refine ev_sub2 ?_)); (fail_if_success (with_reducible refine ev_aug2 ?_)); (fail_if_success (with_reducible refine ev_aug2V ?_)); (fail_if_success (with_reducible refine ev_whileK ?_)); (fail_if_success (with_reducible refine ev_of.mpr ?_)); (fail_if_success (with_reducible refine ev_if.mpr ?_)); (fail_if_success (with_reducible refine ev_up.mpr ?_)); (fail_if_success (with_reducible refine ev_rdE ?_)); (fail_if_success (with_reducible refine ev_forK ?_)); first | refine ev_bind.mpr ?_ | refine ev_pure.mpr ?_ | refine ev_put.mpr ⟨by decide, ?_⟩ | refine (ev_rd rfl).mpr ?_ | refine ev_up.mpr ⟨_, _, rfl, rfl, ?_⟩ | refine ev_seqS.mpr ?_ | refine ev_ite.mpr ?_)) | ((with_reducible refine ite_id ?_); first | refine if_tt ?_ | refine if_ff ?_))))
theorem law_true (ns : List Int) (h : ns.length ≤ 63) : ∃ ρ, m_law [some (.val (.scr ns))] = some (.ok (.val (.bl true)), ρ) := by
  suffices q : Ev m_law [some (.val (.scr ns))] fun o _ => o = .val (.bl true) by
    obtain ⟨a, ρ', e, rfl⟩ := q; exact ⟨ρ', e⟩
  unfold m_law b_law
  walk_at "e"
  refine ev_if.mpr (if_in (by decide) ?_)
  walk_at "e"
  refine forL_inv (fun ds ρ => ∃ (i c k : Int) (s2 s3 s4 s5 s6 s7 s8 s9 s10 s11 s12 s13 s14 s15 s16 s17 s18 s19 u20 u21 u22 : Option O), ρ = [some (.val (.scr ns)), some (rowO ns i c k), s2, s3, s4, s5, s6, s7, s8, s9, s10, s11, s12, s13, s14, s15, s16, s17, s18, s19, u20, u21, u22] ∧ 0 ≤ i ∧ 0 ≤ k) ?_ ?_ _ _ ⟨0, 0, 0, _, _, _, _, _, _, _, _, _, _, _, _, _, _, _, _, _, _, _, _, _, rfl, by decide, by decide⟩
  · rintro d ds ρ ⟨i, c, k, s2, s3, s4, s5, s6, s7, s8, s9, s10, s11, s12, s13, s14, s15, s16, s17, s18, s19, u20, u21, u22, rfl, hi, hk⟩
    walk_at "e"
    refine ⟨_, _, rfl, ev_law_floor hi hk (by decide) (by decide) fun f i1 c1 k1 ok c8 _ _ hi1 hk1 ρ1 => ?_⟩
    (refine ev_at23 rfl ?_); walk_at "e"
    refine ⟨_, _, rfl, ev_law_sun hi1 hk1 fun l i2 c2 k2 l0 l6 hi2 hk2 ρ2 => ?_⟩
    (refine ev_at23 rfl ?_); walk_at "e"
    refine ⟨_, _, rfl, ev_taken (by first | assumption | omega) (by first | decide | omega) (by first | decide | omega) (by first | assumption | omega) fun v1 i1 c1 k1 v01 v11 i01 k01 s21 s31 => ?_⟩
    (refine ev_at23 rfl ?_); walk_at "e"
    obtain ⟨m1, hm1, em1⟩ := pick2 (a := 9) (b := 10 ^ 18) v01 v11
    refine ev_of.mpr ⟨_, em1, ?_⟩
    have hm1p : 0 < m1 ∧ m1 ≤ 1000000000000000000 := by rcases hm1 with rfl | rfl <;> decide
    (refine ev_at23 rfl ?_); walk_at "e"
    refine ⟨_, _, rfl, ev_taken (by first | assumption | omega) (by first | decide | omega) (by first | decide | omega) (by first | assumption | omega) fun v2 i2 c2 k2 v02 v12 i02 k02 s22 s32 => ?_⟩
    (refine ev_at23 rfl ?_); walk_at "e"
    refine ⟨_, _, rfl, ev_shade ok l0 l6 (b := v2) (by omega) (by omega) fun g ρ hg => ?_⟩
    have fh0 := ok.h0; have fh1 := ok.h1; have fw0 := ok.w0; have fw1 := ok.w1
    have pn := ok.pn
    have cl := cells_len ok
    (refine ev_at23 rfl ?_); walk_at "e"
    obtain ⟨F, hF⟩ : ∃ F, F = f.cells.filter (shady f g) := ⟨_, rfl⟩
    rw [← hF]
    have hFl : F.length ≤ 25 := by rw [hF]; exact Nat.le_trans (List.length_filter_le _ _) cl
    have hg1 : ∀ {g' : Sg}, l[(v2 % (l.length : Int)).toNat]? = some g' → g' = g := fun h => by
      rw [hg] at h
      exact (Option.some.inj h).symm
    refine ev_at23 rfl ?_
    refine forL_inv (fun ds ρ => ∃ (done rest : List Post) (acc : List Cell) (s12 : Option O), ds = rest.map pD ∧ f.ps = done ++ rest ∧ (∀ x, x ∈ acc ↔ x ∈ f.cells ∧ ∃ p ∈ done, shady (oneP f p) g x = true) ∧ acc.length ≤ 25 * done.length ∧
      ρ = [some (.val (.scr ns)), some (rowO ns i2 c2 k2), some (.val d), vD f.D, some (.val (.str (sunS l))), vI v2, vI f.h, vI f.w, vD (.tup (f.ps.map pD)), vD (.tup (f.cs.map cD)), some (lstC F), some (lstC acc), s12, s13, s14, s15, s16, s17, s18, s19, u20, u21, u22]) ?_ ?_ _ _ ⟨[], f.ps, [], _, rfl, rfl, by simp, by simp, rfl⟩
    · rintro d2 ds2 ρ ⟨done, rest, acc, s12, e1, e2, e3, e4, rfl⟩
      cases rest with
      | nil => cases e1
      | cons p rest =>
        rw [List.map_cons] at e1
        injection e1 with e1 e1'
        subst e1 e1'
        have hp : p ∈ f.ps := by rw [e2]; simp
        have hdl : done.length + rest.length + 1 ≤ 4 := by
          have := congrArg List.length e2
          simp at this
          omega
        (refine ev_at23 rfl ?_); walk_at "e"
        refine ⟨_, _, rfl, ev_shade (f := oneP f p) (oneP_ok ok hp) l0 l6 (b := v2) (by omega) (by omega) (c8 := by simp [oneP]) fun g' ρ hg' => ?_⟩
        cases hg1 hg'
        (refine ev_at23 rfl ?_); walk_at "e"
        have hfl : ((oneP f p).cells.filter (shady (oneP f p) g)).length ≤ 25 := Nat.le_trans (List.length_filter_le _ _) cl
        refine ev_of.mpr ⟨_, add_lc (by unfold lim; omega), ?_⟩
        (refine ev_at23 rfl ?_); walk_at "e"
        refine ⟨done ++ [p], rest, _, _, rfl, by rw [e2]; simp, fun x => ?_, by rw [List.length_append, List.length_append, List.length_singleton]; omega, rfl⟩
        rw [List.mem_append, e3, List.mem_filter, show (oneP f p).cells = f.cells from rfl]
        constructor
        · rintro (⟨h1, q, h2, h3⟩ | ⟨h1, h2⟩)
          · exact ⟨h1, q, by simp [h2], h3⟩
          · exact ⟨h1, p, by simp, h2⟩
        · rintro ⟨h1, q, h2, h3⟩
          rcases List.mem_append.mp h2 with h2 | h2
          · exact .inl ⟨h1, q, h2, h3⟩
          · rw [List.mem_singleton.mp h2] at h3
            exact .inr ⟨h1, h3⟩
    · rintro ρ ⟨done, rest, acc, s12, e1, e2, e3, e4, rfl⟩
      have hr : rest = [] := List.map_eq_nil_iff.mp e1.symm
      subst hr
      rw [List.append_nil] at e2
      rw [← e2] at e3 e4
      (refine ev_at23 rfl ?_); walk_at "e"
      refine forL_inv (fun ds ρ => ∃ (done rest : List Cell) (acc : List Cell) (s12 : Option O), ds = rest.map cD ∧ f.cs = done ++ rest ∧ (∀ x, x ∈ acc ↔ x ∈ f.cells ∧ ((∃ p ∈ f.ps, shady (oneP f p) g x = true) ∨ ∃ q ∈ done, shady (oneC f q) g x = true)) ∧ acc.length ≤ 25 * 4 + 25 * done.length ∧
        ρ = [some (.val (.scr ns)), some (rowO ns i2 c2 k2), some (.val d), vD f.D, some (.val (.str (sunS l))), vI v2, vI f.h, vI f.w, vD (.tup (f.ps.map pD)), vD (.tup (f.cs.map cD)), some (lstC F), some (lstC acc), s12, s13, s14, s15, s16, s17, s18, s19, u20, u21, u22]) ?_ ?_ _ _ ⟨[], f.cs, acc, _, rfl, rfl, fun x => by rw [e3]; simp, by rw [List.length_nil]; omega, rfl⟩
      · rintro d2 ds2 ρ ⟨done, rest, acc, s12, e1, e2, e3, e4, rfl⟩
        cases rest with
        | nil => cases e1
        | cons p rest =>
          rw [List.map_cons] at e1
          injection e1 with e1 e1'
          subst e1 e1'
          have hp : p ∈ f.cs := by rw [e2]; simp
          have hdl : done.length + rest.length + 1 ≤ 8 := by
            have := congrArg List.length e2
            simp at this
            omega
          (refine ev_at23 rfl ?_); walk_at "e"
          refine ⟨_, _, rfl, ev_shade (f := oneC f p) (oneC_ok ok hp) l0 l6 (b := v2) (by omega) (by omega) (c8 := by simp [oneC]) fun g' ρ hg' => ?_⟩
          cases hg1 hg'
          (refine ev_at23 rfl ?_); walk_at "e"
          have hfl : ((oneC f p).cells.filter (shady (oneC f p) g)).length ≤ 25 := Nat.le_trans (List.length_filter_le _ _) cl
          refine ev_of.mpr ⟨_, add_lc (by unfold lim; omega), ?_⟩
          (refine ev_at23 rfl ?_); walk_at "e"
          refine ⟨done ++ [p], rest, _, _, rfl, by rw [e2]; simp, fun x => ?_, by rw [List.length_append, List.length_append, List.length_singleton]; omega, rfl⟩
          rw [List.mem_append, e3, List.mem_filter, show (oneC f p).cells = f.cells from rfl]
          constructor
          · rintro (⟨h1, h2 | ⟨q, h2, h3⟩⟩ | ⟨h1, h2⟩)
            · exact ⟨h1, .inl h2⟩
            · exact ⟨h1, .inr ⟨q, by simp [h2], h3⟩⟩
            · exact ⟨h1, .inr ⟨p, by simp, h2⟩⟩
          · rintro ⟨h1, h2 | ⟨q, h2, h3⟩⟩
            · exact .inl ⟨h1, .inl h2⟩
            · rcases List.mem_append.mp h2 with h2 | h2
              · exact .inl ⟨h1, .inr ⟨q, h2, h3⟩⟩
              · rw [List.mem_singleton.mp h2] at h3
                exact .inr ⟨h1, h3⟩
      · rintro ρ ⟨done, rest, acc, s12, e1, e2, e3, e4, rfl⟩
        have hr : rest = [] := List.map_eq_nil_iff.mp e1.symm
        subst hr
        rw [List.append_nil] at e2
        rw [← e2] at e3 e4
        have e5 : ∀ x, x ∈ acc ↔ x ∈ f.cells.filter (shady f g) := fun x => by
          rw [e3, List.mem_filter, shady_parts, Bool.or_eq_true, List.any_eq_true, List.any_eq_true]
        unfold srtSetF
        (refine ev_at23 rfl ?_); walk_at "e"
        refine ev_of.mpr ⟨_, srtSetW ok e5, ?_⟩
        rw [← hF]
        (refine ev_at23 rfl ?_); walk_at "e"
        refine ev_of.mpr ⟨_, ne_lstW _, ?_⟩
        (refine ev_at23 rfl ?_); walk_at "e"
        rw [List.length_map]
        refine ⟨_, _, rfl, ev_taken (by first | assumption | omega) (by first | decide | omega) (by first | decide | omega) (by first | assumption | omega) fun v3 i3 c3 k3 v03 v13 i03 k03 s23 s33 => ?_⟩
        obtain ⟨kk, hkk⟩ : ∃ kk : Nat, v3 = (kk : Int) := ⟨v3.toNat, by omega⟩
        subst hkk
        (refine ev_at23 rfl ?_); walk_at "e"
        have hpD : D.tup (fzs [O.val (.int f.h), O.val (.int f.w), O.val (.tup (cutL (f.ps.map pD) none (some 1))), O.val (.tup (cutL (f.cs.map cD) none (some (kk : Int))))]) = (partF f kk).D := by
          rw [show (1 : Int) = ((1 : Nat) : Int) from rfl, cut_tkW, cut_tkW, ← List.map_take, ← List.map_take]
          rw [fzs, fz, fzs, fz, fzs, fz, fzs, fz, fzs]
          rfl
        rw [hpD]
        have po := partF_ok ok kk
        have pc8 : (partF f kk).cs.length ≤ 8 := by show (f.cs.take kk).length ≤ 8; rw [List.length_take]; omega
        refine ev_of.mpr ⟨_, len_sun l6, ?_⟩
        (refine ev_at23 rfl ?_); walk_at "e"
        obtain ⟨L, hL⟩ : ∃ L : Int, L = (l.length : Int) := ⟨_, rfl⟩
        rw [← hL]
        refine ev_if.mpr (if_in (by omega) ?_)
        rw [show rangeD 0 L.toNat = (List.range' 0 l.length).map fun (j : Nat) => D.int (j : Int) by
          rw [hL, Int.toNat_natCast]; unfold rangeD; rw [← List.range_eq_range']; simp]
        walk_at "e"
        refine ev_at23 rfl ?_
        refine forL_inv (fun ds ρ => ∃ (n : Nat) (due : List (Nat × Cell)) (s16 u20 : Option O), n ≤ l.length ∧ ds = (List.range' n (l.length - n)).map (fun (j : Nat) => D.int (j : Int)) ∧ due ++ dueR f (partF f kk) n (l.drop n) = dueR f (partF f kk) 0 l ∧ due.length ≤ 25 * n ∧
          ρ = [some (.val (.scr ns)), some (rowO ns i3 c3 k3), some (.val d), vD f.D, some (.val (.str (sunS l))), vI v2, vI f.h, vI f.w, vD (.tup (f.ps.map pD)), vD (.tup (f.cs.map cD)), some (lstC F), some (lstC acc), s12, vI (kk : Int), vD (partF f kk).D, some (.lst ((due.map dD).map O.val)), s16, s17, s18, s19, u20, u21, u22]) ?_ ?_ _ _ ⟨0, [], _, _, Nat.zero_le _, rfl, rfl, by simp, rfl⟩
        · rintro d2 ds2 ρ ⟨n, due, s16, u20, hn, e6, e7, e8, rfl⟩
          cases hk2 : l.length - n with
          | zero => rw [hk2] at e6; cases e6
          | succ m =>
            rw [hk2, List.range'_succ, List.map_cons] at e6
            injection e6 with e6 e6'
            subst e6 e6'
            have hnl : n < l.length := by omega
            (refine ev_at23 rfl ?_); walk_at "e"
            refine ⟨_, _, rfl, ev_shade ok l0 l6 (b := (n : Nat)) (by omega) (by omega) fun g1 ρ hg' => ?_⟩
            have hg2 := sg_atW hnl hg'
            (refine ev_at23 rfl ?_); walk_at "e"
            refine ev_of.mpr ⟨_, its_cells _, ?_⟩
            have hfl : (f.cells.filter (shady f g1)).length ≤ 25 := Nat.le_trans (List.length_filter_le _ _) cl
            refine ⟨by rw [List.length_map]; unfold lim; omega, ?_⟩
            refine ev_at23 rfl ?_
            refine lcL_map (p := unC fun c => !shady (partF f kk) g1 c) (e := fun d => O.val (.tup [.int (n : Int), d])) (fun x hx => ?_) ?_
            · obtain ⟨y, hy, rfl⟩ := List.mem_map.mp hx
              obtain ⟨hy1, hy2⟩ := List.mem_filter.mp hy
              (refine ev_at23 rfl ?_); walk_at "e"
              refine ⟨_, _, rfl, ev_shade po l0 l6 (b := (n : Nat)) (by omega) (by omega) fun g' ρ hg'' => ?_⟩
              have hgg : g1 = g' := by
                have := sg_atW hnl hg''
                rw [hg2] at this
                exact Option.some.inj this
              subst hgg
              (refine ev_at23 rfl ?_); walk_at "e"
              have hs : (!((partF f kk).cells.filter (shady (partF f kk) g1)).contains y) = !shady (partF f kk) g1 y := by
                rw [contains_filter]
                unfold sh
                rw [show (partF f kk).cells.contains y = true from List.contains_iff_mem.mpr hy1, Bool.true_and]
              refine ev_of.mpr ⟨_, nin_cellsL _ _, ?_⟩
              rw [hs]
              refine ⟨rfl, fun _ => ?_, fun h => rfl⟩
              (refine ev_at23 rfl ?_); walk_at "e"
              refine ⟨?_, rfl⟩
              rw [fzs, fz, fzs, fz, fzs]
            have e9 : ((((f.cells.filter (shady f g1)).map cD).filter (unC fun c => !shady (partF f kk) g1 c)).map fun d => O.val (.tup [.int (n : Int), d])) = (((bareD f (partF f kk) g1).map fun c => (n, c)).map dD).map O.val := by
              rw [List.filter_map, List.map_map, List.map_map, List.map_map]
              rfl
            rw [e9]
            have hbl : (bareD f (partF f kk) g1).length ≤ 25 := Nat.le_trans (List.length_filter_le _ _) hfl
            (refine ev_at23 rfl ?_); walk_at "e"
            refine ev_of.mpr ⟨_, add_lw (xs := due.map dD) (ys := ((bareD f (partF f kk) g1).map fun c => (n, c)).map dD) (by simp only [List.length_map]; unfold lim; omega), ?_⟩
            rw [← List.map_append]
            (refine ev_at23 rfl ?_); walk_at "e"
            refine ⟨n + 1, due ++ (bareD f (partF f kk) g1).map fun c => (n, c), _, _, by omega, by rw [show l.length - (n + 1) = m by omega], ?_, by rw [List.length_append, List.length_map]; omega, rfl⟩
            have hd : l.drop n = g1 :: l.drop (n + 1) := by
              rw [List.drop_eq_getElem_cons hnl]
              congr 1
              exact Option.some.inj (by rw [← List.getElem?_eq_getElem hnl]; exact hg2)
            rw [hd, dueR] at e7
            rw [List.append_assoc]
            exact e7
        · rintro ρ ⟨n, due, s16, u20, hn, e6, e7, e8, rfl⟩
          have hz : l.length - n = 0 := by
            cases hk2 : l.length - n with
            | zero => rfl
            | succ m => rw [hk2, List.range'_succ, List.map_cons] at e6; cases e6
          rw [List.drop_eq_nil_of_le (by omega), dueR, List.append_nil] at e7
          have e10 : due.head? = firstD f (partF f kk) 0 l := by rw [e7]; exact dueR_first ok kk l 0
          have hdl : due.length ≤ 150 := by omega
          (refine ev_at23 rfl ?_); walk_at "e"
          refine ⟨_, _, rfl, ev_parted ok po l0 l6 fun ρ => ?_⟩
          (refine ev_at23 rfl ?_); walk_at "e"
          refine ev_of.mpr ⟨_, add_lw (xs := due.map dD) (ys := [D.non]) (by rw [List.length_map, List.length_singleton]; unfold lim; omega), ?_⟩
          (refine ev_at23 rfl ?_); walk_at "e"
          refine ev_of.mpr ⟨_, due_at0 due, ?_⟩
          rw [e10]
          (refine ev_at23 rfl ?_); walk_at "e"
          refine ev_of.mpr ⟨_, ne_dueW _, ?_⟩
          (refine ev_at23 rfl ?_); walk_at "e"
          refine ⟨_, _, rfl, ev_parted po ok l0 l6 fun ρ => ?_⟩
          rw [firstD_comm (partF f kk) f]
          (refine ev_at23 rfl ?_); walk_at "e"
          refine ev_of.mpr ⟨_, add_lw (xs := due.map dD) (ys := [D.non]) (by rw [List.length_map, List.length_singleton]; unfold lim; omega), ?_⟩
          (refine ev_at23 rfl ?_); walk_at "e"
          refine ev_of.mpr ⟨_, due_at0 due, ?_⟩
          rw [e10]
          (refine ev_at23 rfl ?_); walk_at "e"
          refine ev_of.mpr ⟨_, ne_dueW _, ?_⟩
          (refine ev_at23 rfl ?_); walk_at "e"
          refine ⟨_, _, rfl, ev_parted ok ok l0 l6 fun ρ => ?_⟩
          rw [firstD_self]
          (refine ev_at23 rfl ?_); walk_at "e"
          refine ev_if.mpr (if_in (by decide) ?_)
          walk_at "e"
          refine forL_inv (fun ds ρ => ∃ (n : Nat) (s16 s17 s18 s19 u20 u21 u22 : Option O), n ≤ 2 ∧ ds = (List.range' n (2 - n)).map (fun (j : Nat) => D.int (j : Int)) ∧
            ρ = [some (.val (.scr ns)), some (rowO ns i3 c3 k3), some (.val d), vD f.D, some (.val (.str (sunS l))), vI v2, vI f.h, vI f.w, vD (.tup (f.ps.map pD)), vD (.tup (f.cs.map cD)), some (s10W n F), some (lstC acc), s12, vI (kk : Int), vD (partF f kk).D, some (.lst ((due.map dD).map O.val)), s16, s17, s18, s19, u20, u21, u22]) ?_ ?_ _ _ ⟨0, _, _, _, _, _, _, _, Nat.zero_le _, rfl, by rw [lstC_eq F]; rfl⟩
          · rintro d2 ds2 ρ ⟨n, s16, s17, s18, s19, u20, u21, u22, hn, e11, rfl⟩
            match n, hn, e11 with
            | 0, _, e11 =>
              have e11 : d2 :: ds2 = [D.int 0, D.int 1] := e11
              injection e11 with e11 e11'
              subst e11 e11'
              unfold dictZipF
              (refine ev_at23 rfl ?_); walk_at "e"
              refine ⟨_, _, rfl, ev_turn0 ok fun ρ => ?_⟩
              (refine ev_at23 rfl ?_); walk_at "e"
              rw [signs_sun]
              refine ⟨by rw [List.length_map]; unfold lim; omega, ?_⟩
              refine ev_at23 rfl ?_
              refine lcL_map (p := fun _ => true) (e := fun d => (idxE (.val (.dct false (sgD (PySem.Str.ofString "ensow")) (sgD (PySem.Str.ofString "wnsoe")))) (.val d)).getD (.val .non)) (fun x hx => ?_) ?_
              · obtain ⟨y, hy, rfl⟩ := List.mem_map.mp hx
                (refine ev_at23 rfl ?_); walk_at "e"
                refine ⟨rfl, fun _ => ?_, fun h => absurd h (by simp)⟩
                (refine ev_at23 rfl ?_); walk_at "e"
                refine ev_of.mpr ⟨_, dict_at0 y, ?_⟩
                refine ⟨?_, rfl⟩
                rw [dict_at0]
                rfl
              rw [filter_all]
              have e12 : ((l.map fun g => D.str g.S).map fun d => (idxE (.val (.dct false (sgD (PySem.Str.ofString "ensow")) (sgD (PySem.Str.ofString "wnsoe")))) (.val d)).getD (.val .non)) = ((l.map mirG).map fun g => D.str g.S).map O.val := by
                rw [List.map_map, List.map_map, List.map_map]
                refine List.map_congr_left fun y _ => ?_
                show (idxE _ (.val (.str y.S))).getD _ = _
                rw [dict_at0]
                rfl
              rw [e12]
              refine ev_of.mpr ⟨_, joinG_sun (l := l.map mirG) (by rw [List.length_map]; omega), ?_⟩
              (refine ev_at23 rfl ?_); walk_at "e"
              refine ⟨_, _, rfl, ev_shade (f := mirF f) ((tn_mir ok).ok ok) (l := l.map mirG) (fun z => l0 (List.map_eq_nil_iff.mp z)) (by rw [List.length_map]; exact l6) (b := v2) (by omega) (by omega) (c8 := by show (f.cs.map _).length ≤ 8; rw [List.length_map]; exact c8) fun g' ρ hg' => ?_⟩
              have hgg : mirG g = g' := by
                rw [List.length_map, List.getElem?_map, hg] at hg'
                exact Option.some.inj hg'
              subst hgg
              (refine ev_at23 rfl ?_); walk_at "e"
              rw [show s10W 0 F = .lst ((F.map cD).map O.val) from rfl]
              refine ev_at23 rfl ?_
              refine (ev_rdL rfl).mpr ?_
              rw [fzs_mapW]
              (refine ev_at23 rfl ?_); walk_at "e"
              refine ⟨by rw [List.length_map]; unfold lim; omega, ?_⟩
              refine ev_at23 rfl ?_
              refine lcL_map (p := fun _ => true) (e := fun d => O.val (mirCD f.w d)) (fun x hx => ?_) ?_
              · obtain ⟨y, hy, rfl⟩ := List.mem_map.mp hx
                (refine ev_at23 rfl ?_); walk_at "e"
                refine ⟨rfl, fun _ => ?_, fun h => absurd h (by simp)⟩
                (refine ev_at23 rfl ?_); walk_at "e"
                refine ⟨?_, rfl⟩
                rw [fzs, fz, fzs, fz, fzs]
                rfl
              rw [filter_all]
              have e13 : ((F.map cD).map fun d => O.val (mirCD f.w d)) = (((f.cells.filter (shady f g)).map (mirC f.w)).map cD).map O.val := by
                rw [← hF, List.map_map, List.map_map, List.map_map]
                rfl
              rw [e13]
              (refine ev_at23 rfl ?_); walk_at "e"
              refine ev_of.mpr ⟨_, srt_turn (tn_mir ok) ok g, ?_⟩
              (refine ev_at23 rfl ?_); walk_at "e"
              refine ev_of.mpr ⟨_, ne_lstW _, ?_⟩
              (refine ev_at23 rfl ?_); walk_at "e"
              exact ⟨1, _, _, _, _, _, _, _, by omega, rfl, rfl⟩
            | 1, _, e11 =>
              have e11 : d2 :: ds2 = [D.int 1] := e11
              injection e11 with e11 e11'
              subst e11 e11'
              unfold dictZipF
              (refine ev_at23 rfl ?_); walk_at "e"
              refine ⟨_, _, rfl, ev_turn1 ok fun ρ => ?_⟩
              (refine ev_at23 rfl ?_); walk_at "e"
              rw [signs_sun]
              refine ⟨by rw [List.length_map]; unfold lim; omega, ?_⟩
              refine ev_at23 rfl ?_
              refine lcL_map (p := fun _ => true) (e := fun d => (idxE (.val (.dct false (sgD (PySem.Str.ofString "ensow")) (sgD (PySem.Str.ofString "sweon")))) (.val d)).getD (.val .non)) (fun x hx => ?_) ?_
              · obtain ⟨y, hy, rfl⟩ := List.mem_map.mp hx
                (refine ev_at23 rfl ?_); walk_at "e"
                refine ⟨rfl, fun _ => ?_, fun h => absurd h (by simp)⟩
                (refine ev_at23 rfl ?_); walk_at "e"
                refine ev_of.mpr ⟨_, dict_at1 y, ?_⟩
                refine ⟨?_, rfl⟩
                rw [dict_at1]
                rfl
              rw [filter_all]
              have e12 : ((l.map fun g => D.str g.S).map fun d => (idxE (.val (.dct false (sgD (PySem.Str.ofString "ensow")) (sgD (PySem.Str.ofString "sweon")))) (.val d)).getD (.val .non)) = ((l.map trG).map fun g => D.str g.S).map O.val := by
                rw [List.map_map, List.map_map, List.map_map]
                refine List.map_congr_left fun y _ => ?_
                show (idxE _ (.val (.str y.S))).getD _ = _
                rw [dict_at1]
                rfl
              rw [e12]
              refine ev_of.mpr ⟨_, joinG_sun (l := l.map trG) (by rw [List.length_map]; omega), ?_⟩
              (refine ev_at23 rfl ?_); walk_at "e"
              refine ⟨_, _, rfl, ev_shade (f := trF f) ((tn_tr ok).ok ok) (l := l.map trG) (fun z => l0 (List.map_eq_nil_iff.mp z)) (by rw [List.length_map]; exact l6) (b := v2) (by omega) (by omega) (c8 := by show (f.cs.map _).length ≤ 8; rw [List.length_map]; exact c8) fun g' ρ hg' => ?_⟩
              have hgg : trG g = g' := by
                rw [List.length_map, List.getElem?_map, hg] at hg'
                exact Option.some.inj hg'
              subst hgg
              (refine ev_at23 rfl ?_); walk_at "e"
              rw [show s10W 1 F = .val (.lst (F.map cD)) from rfl]
              refine ⟨by rw [List.length_map]; unfold lim; omega, ?_⟩
              refine ev_at23 rfl ?_
              refine lcL_map (p := fun _ => true) (e := fun d => O.val (trCD d)) (fun x hx => ?_) ?_
              · obtain ⟨y, hy, rfl⟩ := List.mem_map.mp hx
                (refine ev_at23 rfl ?_); walk_at "e"
                refine ⟨rfl, fun _ => ?_, fun h => absurd h (by simp)⟩
                (refine ev_at23 rfl ?_); walk_at "e"
                refine ⟨?_, rfl⟩
                rw [fzs, fz, fzs, fz, fzs]
                rfl
              rw [filter_all]
              have e13 : ((F.map cD).map fun d => O.val (trCD d)) = (((f.cells.filter (shady f g)).map (trC)).map cD).map O.val := by
                rw [← hF, List.map_map, List.map_map, List.map_map]
                rfl
              rw [e13]
              (refine ev_at23 rfl ?_); walk_at "e"
              refine ev_of.mpr ⟨_, srt_turn (tn_tr ok) ok g, ?_⟩
              (refine ev_at23 rfl ?_); walk_at "e"
              refine ev_of.mpr ⟨_, ne_lstW _, ?_⟩
              (refine ev_at23 rfl ?_); walk_at "e"
              exact ⟨2, _, _, _, _, _, _, _, by omega, rfl, rfl⟩
            | 2, _, e11 => cases e11
          · rintro ρ ⟨n, s16, s17, s18, s19, u20, u21, u22, hn, e11, rfl⟩
            exact ⟨_, _, _, _, _, _, _, _, _, _, _, _, _, _, _, _, _, _, _, _, _, _, _, _, rfl, i03, k03⟩
  · rintro ρ ⟨i, c, k, s2, s3, s4, s5, s6, s7, s8, s9, s10, s11, s12, s13, s14, s15, s16, s17, s18, s19, u20, u21, u22, rfl, hi, hk⟩
    (refine ev_at23 rfl ?_); walk_at "e"
    rfl
end G

set_option Elab.async false
set_option linter.all false
set_option maxRecDepth 100000
set_option maxHeartbeats 4000000
namespace G
open PySem PySem.Spec PyProof.Rows L2 PF LamX NdefX
section
variable {P : Program} {w : World} {K : PySem.W.Frag} {mg : Str → Option Value} {base : Heap} {ca : Ca}
theorem sc__law_taken : FnScope [(PySem.Str.ofString "_law_row"), (PySem.Str.ofString "_law_many"), (PySem.Str.ofString "_law_found"), (PySem.Str.ofString "_law_cell")] [(PySem.Str.ofString "_law_row"), (PySem.Str.ofString "_law_many")] (defScope x__law_taken) := ⟨rfl, rfl, rfl, by decide +kernel, rfl, by decide +kernel, by decide +kernel⟩
theorem ok__law_taken (E : Env P w K mg ca)  {f : Addr} {fd : FuncData} (F : FnQ K (PySem.Str.ofString "_law_taken") (PySem.Str.ofString "_law_taken") x__law_taken f fd) : FnOk P w K mg base (L2.CX P w) 1 f fd [(PySem.Str.ofString "_law_row"), (PySem.Str.ofString "_law_many")] (spOf ⟨P, w, K, ca⟩ [true, false] m__law_taken) := by
  refine d_okD F sc__law_taken rfl (by decide) fun cdv A outer s H Ex hr => ?_
  have hu : (cxOf (L2.CX P w) P w K mg base [(PySem.Str.ofString "_law_row"), (PySem.Str.ofString "_law_many"), (PySem.Str.ofString "_law_found"), (PySem.Str.ofString "_law_cell")] (PySem.Str.ofString "_law_taken") (defScope x__law_taken) f cdv A outer s H Ex).A.units + 65 < cLine := hu_room hr
  have hN := sc__law_taken.nd
  have tk : Takes (cxOf (L2.CX P w) P w K mg base [(PySem.Str.ofString "_law_row"), (PySem.Str.ofString "_law_many"), (PySem.Str.ofString "_law_found"), (PySem.Str.ofString "_law_cell")] (PySem.Str.ofString "_law_taken") (defScope x__law_taken) f cdv A outer s H Ex) (fun cls d _ H => Ex cls d H) := takes_of rfl rfl rfl rfl
  exact s_cons (s_if (t_cmp (op_gtC) pr_tt (e_ix hu (pr_pt 0) (pv 0) (e_look (e_c pe_int fun _ => repI))) (e_look (e_c pe_int fun _ => repI)) (nomark _)) (s_cons (s_set (i := 2) hN rfl (.inl rfl) (by decide) (e_bin op_modG pr_tt (e_callTy cb_int rfl E.int (by first | rfl | kernel_rfl) (r_one (e_look (e_ix hu (pr_pt 0) (pv 0) (e_look (e_c pe_int fun _ => repI)))))) (e_pk 1 (pv 1))))
    (s_cons (s_asg (e_bin op_divG pr_tt (e_ix hu (pr_pt 0) (pv 0) (e_look (e_c pe_int fun _ => repI))) (e_pk 1 (pv 1))) (g_sub 0 hu (pv 0) (e_c pe_int fun _ => repI)))
    (s_one (s_ret (e_rd 2 (pv 2)))))) (s_nil))
    (s_cons (s_asg (e_bin op_addG pr_tt (e_ix hu (pr_pt 0) (pv 0) (e_look (e_c pe_int fun _ => repI))) (e_look (e_c pe_int fun _ => repI))) (g_sub 0 hu (pv 0) (e_c pe_int fun _ => repI)))
    (s_cons (s_if (t_cmp (op_gtC) pr_tt (e_ix hu (pr_pt 0) (pv 0) (e_look (e_c pe_int fun _ => repI))) (e_look (e_callB cb_len rfl E.len (by first | rfl | kernel_rfl) (r_one (e_look (e_ix hu (pr_pt 0) (pv 0) (e_look (e_c pe_int fun _ => repI))))))) (nomark _)) (s_cons (s_asg (e_bin op_modG pr_tt (e_callTy cb_int rfl E.int (by first | rfl | kernel_rfl) (r_one (e_look (e_bin op_addG pr_tt (e_bin op_mulG pr_tt (e_ix hu (pr_pt 0) (pv 0) (e_look (e_c pe_int fun _ => repI))) (e_look (e_c pe_int fun _ => repI))) (e_look (e_c pe_int fun _ => repI)))))) (e_look (e_c pe_int fun _ => repI))) (g_sub 0 hu (pv 0) (e_c pe_int fun _ => repI)))
    (s_one (s_ret (e_bin op_modG pr_tt (e_callTy cb_int rfl E.int (by first | rfl | kernel_rfl) (r_one (e_look (e_bin op_divG pr_tt (e_ix hu (pr_pt 0) (pv 0) (e_look (e_c pe_int fun _ => repI))) (e_look (e_c pe_int fun _ => repI)))))) (e_pk 1 (pv 1)))))) (s_nil))
    (s_cons (s_set (i := 3) hN rfl (.inl rfl) (by decide) (e_ix hu pr_tt (e_ix hu (pr_pt 0) (pv 0) (e_look (e_c pe_int fun _ => repI))) (e_look (e_bin op_subG pr_tt (e_ix hu (pr_pt 0) (pv 0) (e_look (e_c pe_int fun _ => repI))) (e_look (e_c pe_int fun _ => repI))))))
    (s_cons (s_asg (e_bin op_modG pr_tt (e_callTy cb_int rfl E.int (by first | rfl | kernel_rfl) (r_one (e_look (e_bin op_addG pr_tt (e_bin op_addG pr_tt (e_bin op_mulG pr_tt (e_ix hu (pr_pt 0) (pv 0) (e_look (e_c pe_int fun _ => repI))) (e_look (e_c pe_int fun _ => repI))) (e_pk 3 (pv 3))) (e_look (e_c pe_int fun _ => repI)))))) (e_look (e_c pe_int fun _ => repI))) (g_sub 0 hu (pv 0) (e_c pe_int fun _ => repI)))
    (s_cons (s_if (t_cmp (op_geC) (pr_pt 3) (pv 3) (e_look (e_bin op_powG pr_tt (e_c pe_int fun _ => repI) (e_look (e_c pe_int fun _ => repI)))) (nomark _)) (s_one (s_asg (e_bin op_divG (pr_pt 3) (pv 3) (e_pk 1 (pv 1))) (g_sub 0 hu (pv 0) (e_c pe_int fun _ => repI)))) (s_nil))
    (s_one (s_ret (e_bin op_modG pr_tt (e_callTy cb_int rfl E.int (by first | rfl | kernel_rfl) (r_one (e_pk 3 (pv 3)))) (e_pk 1 (pv 1))))))))))
theorem sc__law_floor : FnScope [(PySem.Str.ofString "_law_row"), (PySem.Str.ofString "_law_size"), (PySem.Str.ofString "_law_high"), (PySem.Str.ofString "_law_wide"), (PySem.Str.ofString "_law_posts"), (PySem.Str.ofString "_law_clothes"), (PySem.Str.ofString "_law_k"), (PySem.Str.ofString "_law_cell"), (PySem.Str.ofString "_law_post")] [(PySem.Str.ofString "_law_row"), (PySem.Str.ofString "_law_size")] (defScope x__law_floor) := ⟨rfl, rfl, rfl, by decide +kernel, rfl, by decide +kernel, by decide +kernel⟩
theorem ok__law_floor (E : Env P w K mg ca) (O__law_taken : Own P w K mg base ca 1 (PySem.Str.ofString "_law_taken") [(PySem.Str.ofString "_law_row"), (PySem.Str.ofString "_law_many")] [true, false] m__law_taken) {f : Addr} {fd : FuncData} (F : FnQ K (PySem.Str.ofString "_law_floor") (PySem.Str.ofString "_law_floor") x__law_floor f fd) : FnOk P w K mg base (L2.CX P w) 2 f fd [(PySem.Str.ofString "_law_row"), (PySem.Str.ofString "_law_size")] (spOf ⟨P, w, K, ca⟩ [true, false] m__law_floor) := by
  refine d_okD F sc__law_floor rfl (by decide) fun cdv A outer s H Ex hr => ?_
  have hu : (cxOf (L2.CX P w) P w K mg base [(PySem.Str.ofString "_law_row"), (PySem.Str.ofString "_law_size"), (PySem.Str.ofString "_law_high"), (PySem.Str.ofString "_law_wide"), (PySem.Str.ofString "_law_posts"), (PySem.Str.ofString "_law_clothes"), (PySem.Str.ofString "_law_k"), (PySem.Str.ofString "_law_cell"), (PySem.Str.ofString "_law_post")] (PySem.Str.ofString "_law_floor") (defScope x__law_floor) f cdv A outer s H Ex).A.units + 65 < cLine := hu_room hr
  have hN := sc__law_floor.nd
  have tk : Takes (cxOf (L2.CX P w) P w K mg base [(PySem.Str.ofString "_law_row"), (PySem.Str.ofString "_law_size"), (PySem.Str.ofString "_law_high"), (PySem.Str.ofString "_law_wide"), (PySem.Str.ofString "_law_posts"), (PySem.Str.ofString "_law_clothes"), (PySem.Str.ofString "_law_k"), (PySem.Str.ofString "_law_cell"), (PySem.Str.ofString "_law_post")] (PySem.Str.ofString "_law_floor") (defScope x__law_floor) f cdv A outer s H Ex) (fun cls d _ H => Ex cls d H) := takes_of rfl rfl rfl rfl
  exact s_cons (s_par2 rfl hN (i := 2) (j := 3) rfl rfl (by decide) (by decide) (by decide) rfl rfl (a_cons (e_bin op_addG pr_tt (e_c pe_int fun _ => repI) (e_look (e_own O__law_taken hr (by decide) tk rfl (m_ref 0 (pv 0) (m_cons (e_rd 1 (pv 1)) (m_nil)))))) (a_cons (e_bin op_addG pr_tt (e_c pe_int fun _ => repI) (e_look (e_own O__law_taken hr (by decide) tk rfl (m_ref 0 (pv 0) (m_cons (e_rd 1 (pv 1)) (m_nil)))))) (a_nil))) rfl)
    (s_cons (s_par2 rfl hN (i := 4) (j := 5) rfl rfl (by decide) (by decide) (by decide) rfl rfl (a_cons (e_lst (a_nil)) (a_cons (e_lst (a_nil)) (a_nil))) rfl)
    (s_cons (s_for (passes_of rfl) rfl (i_rng1 rfl E.range (r_one (e_look (e_own O__law_taken hr (by decide) tk rfl (m_ref 0 (pv 0) (m_cons (e_c pe_int fun _ => repI) (m_nil))))))) (g_name (i := 6) hN rfl (.inl rfl) (by decide)) (s_cons (s_set (i := 7) hN rfl (.inl rfl) (by decide) (e_tup (a_cons (e_own O__law_taken hr (by decide) tk rfl (m_ref 0 (pv 0) (m_cons (e_rd 2 (pv 2)) (m_nil)))) (a_cons (e_own O__law_taken hr (by decide) tk rfl (m_ref 0 (pv 0) (m_cons (e_rd 3 (pv 3)) (m_nil)))) (a_nil)))))
    (s_one (s_if (t_cmp ((op_ninE hu)) (pr_pt 7) (pv 7) (e_look (e_lcB (own := [((PySem.Str.ofString "_law_post"), 8)]) 4 rfl hN (pv 4) (show 4 ∉ [8] from by decide) (show BlkOk [(PySem.Str.ofString "_law_row"), (PySem.Str.ofString "_law_size"), (PySem.Str.ofString "_law_high"), (PySem.Str.ofString "_law_wide"), (PySem.Str.ofString "_law_posts"), (PySem.Str.ofString "_law_clothes"), (PySem.Str.ofString "_law_k"), (PySem.Str.ofString "_law_cell"), (PySem.Str.ofString "_law_post")] (defScope x__law_floor) _ _ from ⟨rfl, by decide +kernel, by decide +kernel, by decide +kernel, by decide +kernel⟩) (fun _ _ _ _ _ => g_name (i := 8) hN rfl (.inl rfl) (show 8 ∉ others 9 [8] from by decide)) (fun _ _ _ _ _ => ts_nil) (fun _ _ _ _ _ => e_sliP 8 (pv 8) p_none (p_some (e_look (e_c pe_int fun _ => repI)))))) (by with_unfolding_all rfl)) (s_one (s_expr (e_append 4 (pv 4) (e_bin op_addG (pr_pt 7) (pv 7) (e_look (e_tup (a_cons (e_bin op_addG pr_tt (e_c pe_int fun _ => repI) (e_look (e_own O__law_taken hr (by decide) tk rfl (m_ref 0 (pv 0) (m_cons (e_c pe_int fun _ => repI) (m_nil)))))) (a_nil)))))))) (s_nil)))))
    (s_cons (s_for (passes_of rfl) rfl (i_rng1 rfl E.range (r_one (e_look (e_own O__law_taken hr (by decide) tk rfl (m_ref 0 (pv 0) (m_cons (e_ix hu pr_tt (e_lst (a_cons (e_c pe_int fun _ => repI) (a_cons (e_c pe_int fun _ => repI) (a_nil)))) (e_look (e_own O__law_taken hr (by decide) tk rfl (m_ref 0 (pv 0) (m_cons (e_c pe_int fun _ => repI) (m_nil)))))) (m_nil))))))) (g_name (i := 6) hN rfl (.inl rfl) (by decide)) (s_cons (s_set (i := 7) hN rfl (.inl rfl) (by decide) (e_tup (a_cons (e_own O__law_taken hr (by decide) tk rfl (m_ref 0 (pv 0) (m_cons (e_rd 2 (pv 2)) (m_nil)))) (a_cons (e_own O__law_taken hr (by decide) tk rfl (m_ref 0 (pv 0) (m_cons (e_rd 3 (pv 3)) (m_nil)))) (a_nil)))))
    (s_one (s_set (i := 5) hN rfl (.inl rfl) (by decide) (e_bin op_addG (pr_pt 5) (pv 5) (e_look (e_bin op_mulG pr_tt (e_lst (a_cons (e_rd 7 (pv 7)) (a_nil))) (e_look (e_callTy cb_int rfl E.int (by first | rfl | kernel_rfl) (r_one (e_look (e_cmp ((op_ninE hu)) (pr_pt 7) (pv 7) (e_pk 5 (pv 5)) (by with_unfolding_all rfl)))))))))))))
    (s_one (s_ret (e_tup (a_cons (e_rd 2 (pv 2)) (a_cons (e_rd 3 (pv 3)) (a_cons (e_callTy cb_tuple rfl E.tuple (by first | rfl | kernel_rfl) (r_one (e_pk 4 (pv 4)))) (a_cons (e_callTy cb_tuple rfl E.tuple (by first | rfl | kernel_rfl) (r_one (e_pk 5 (pv 5)))) (a_nil)))))))))))
theorem sc__law_sun : FnScope [(PySem.Str.ofString "_law_row"), (PySem.Str.ofString "_law_k")] [(PySem.Str.ofString "_law_row")] (defScope x__law_sun) := ⟨rfl, rfl, rfl, by decide +kernel, rfl, by decide +kernel, by decide +kernel⟩
theorem ok__law_sun (E : Env P w K mg ca) (O__law_taken : Own P w K mg base ca 1 (PySem.Str.ofString "_law_taken") [(PySem.Str.ofString "_law_row"), (PySem.Str.ofString "_law_many")] [true, false] m__law_taken) {f : Addr} {fd : FuncData} (F : FnQ K (PySem.Str.ofString "_law_sun") (PySem.Str.ofString "_law_sun") x__law_sun f fd) : FnOk P w K mg base (L2.CX P w) 2 f fd [(PySem.Str.ofString "_law_row")] (spOf ⟨P, w, K, ca⟩ [true] m__law_sun) := by
  refine d_okD F sc__law_sun rfl (by decide) fun cdv A outer s H Ex hr => ?_
  have hu : (cxOf (L2.CX P w) P w K mg base [(PySem.Str.ofString "_law_row"), (PySem.Str.ofString "_law_k")] (PySem.Str.ofString "_law_sun") (defScope x__law_sun) f cdv A outer s H Ex).A.units + 65 < cLine := hu_room hr
  have hN := sc__law_sun.nd
  have tk : Takes (cxOf (L2.CX P w) P w K mg base [(PySem.Str.ofString "_law_row"), (PySem.Str.ofString "_law_k")] (PySem.Str.ofString "_law_sun") (defScope x__law_sun) f cdv A outer s H Ex) (fun cls d _ H => Ex cls d H) := takes_of rfl rfl rfl rfl
  exact s_one (s_ret (e_join (e_look (e_c pe_str fun _ => repS)) (e_look (e_lc (own := [((PySem.Str.ofString "_law_k"), 1)]) rfl hN (i_rng1 rfl E.range (r_one (e_look (e_bin op_addG pr_tt (e_c pe_int fun _ => repI) (e_look (e_own O__law_taken hr (by decide) tk rfl (m_ref 0 (pv 0) (m_cons (e_ix hu pr_tt (e_lst (a_cons (e_c pe_int fun _ => repI) (a_cons (e_c pe_int fun _ => repI) (a_nil)))) (e_look (e_own O__law_taken hr (by decide) tk rfl (m_ref 0 (pv 0) (m_cons (e_c pe_int fun _ => repI) (m_nil)))))) (m_nil))))))))) (show BlkOk [(PySem.Str.ofString "_law_row"), (PySem.Str.ofString "_law_k")] (defScope x__law_sun) _ _ from ⟨rfl, by decide +kernel, by decide +kernel, by decide +kernel, by decide +kernel⟩) (fun _ _ _ _ _ => g_name (i := 1) hN rfl (.inl rfl) (show 1 ∉ others 2 [1] from by decide)) (fun _ _ _ _ _ => ts_nil) (fun _ _ _ _ _ => e_ix hu pr_tt (e_c pe_str fun _ => repS) (e_look (e_own O__law_taken hr (by decide) L2.takes0 rfl (m_ref 0 (pv 0) (m_cons (e_c pe_int fun _ => repI) (m_nil))))))))))
theorem sc__law_turned : FnScope [(PySem.Str.ofString "_law_floor_here"), (PySem.Str.ofString "_law_way"), (PySem.Str.ofString "_law_high"), (PySem.Str.ofString "_law_wide"), (PySem.Str.ofString "_law_posts"), (PySem.Str.ofString "_law_clothes"), (PySem.Str.ofString "_law_some"), (PySem.Str.ofString "_law_up"), (PySem.Str.ofString "_law_at"), (PySem.Str.ofString "_law_tall")] [(PySem.Str.ofString "_law_floor_here"), (PySem.Str.ofString "_law_way")] (defScope x__law_turned) := ⟨rfl, rfl, rfl, by decide +kernel, rfl, by decide +kernel, by decide +kernel⟩
theorem ok__law_turned (E : Env P w K mg ca)  {f : Addr} {fd : FuncData} (F : FnQ K (PySem.Str.ofString "_law_turned") (PySem.Str.ofString "_law_turned") x__law_turned f fd) : FnOk P w K mg base (L2.CX P w) 1 f fd [(PySem.Str.ofString "_law_floor_here"), (PySem.Str.ofString "_law_way")] (spOf ⟨P, w, K, ca⟩ [false, false] m__law_turned) := by
  refine d_okD F sc__law_turned rfl (by decide) fun cdv A outer s H Ex hr => ?_
  have hu : (cxOf (L2.CX P w) P w K mg base [(PySem.Str.ofString "_law_floor_here"), (PySem.Str.ofString "_law_way"), (PySem.Str.ofString "_law_high"), (PySem.Str.ofString "_law_wide"), (PySem.Str.ofString "_law_posts"), (PySem.Str.ofString "_law_clothes"), (PySem.Str.ofString "_law_some"), (PySem.Str.ofString "_law_up"), (PySem.Str.ofString "_law_at"), (PySem.Str.ofString "_law_tall")] (PySem.Str.ofString "_law_turned") (defScope x__law_turned) f cdv A outer s H Ex).A.units + 65 < cLine := hu_room hr
  have hN := sc__law_turned.nd
  have tk : Takes (cxOf (L2.CX P w) P w K mg base [(PySem.Str.ofString "_law_floor_here"), (PySem.Str.ofString "_law_way"), (PySem.Str.ofString "_law_high"), (PySem.Str.ofString "_law_wide"), (PySem.Str.ofString "_law_posts"), (PySem.Str.ofString "_law_clothes"), (PySem.Str.ofString "_law_some"), (PySem.Str.ofString "_law_up"), (PySem.Str.ofString "_law_at"), (PySem.Str.ofString "_law_tall")] (PySem.Str.ofString "_law_turned") (defScope x__law_turned) f cdv A outer s H Ex) (fun cls d _ H => Ex cls d H) := takes_of rfl rfl rfl rfl
  exact s_cons (s_asg (e_rd 0 (pv 0)) (g_tup rfl (gs_cons (g_name (i := 2) hN rfl (.inl rfl) (by decide)) (gs_cons (g_name (i := 3) hN rfl (.inr rfl) (by decide)) (gs_cons (g_name (i := 4) hN rfl (.inl rfl) (by decide)) (gs_cons (g_name (i := 5) hN rfl (.inl rfl) (by decide)) (gs_nil)))))))
    (s_cons (s_if (t_cmp (op_eqC (Nat.lt_of_succ_lt hu)) (pr_pt 1) (pv 1) (e_look (e_c pe_int fun _ => repI)) (nomark _)) (s_cons (s_set (i := 6) hN rfl (.inl rfl) (by decide) (e_callTy cb_tuple rfl E.tuple (by first | rfl | kernel_rfl) (r_one (e_look (e_lc (own := [((PySem.Str.ofString "_law_up"), 7), ((PySem.Str.ofString "_law_at"), 8), ((PySem.Str.ofString "_law_tall"), 9)]) rfl hN (i_seq (e_rd 4 (pv 4))) (show BlkOk [(PySem.Str.ofString "_law_floor_here"), (PySem.Str.ofString "_law_way"), (PySem.Str.ofString "_law_high"), (PySem.Str.ofString "_law_wide"), (PySem.Str.ofString "_law_posts"), (PySem.Str.ofString "_law_clothes"), (PySem.Str.ofString "_law_some"), (PySem.Str.ofString "_law_up"), (PySem.Str.ofString "_law_at"), (PySem.Str.ofString "_law_tall")] (defScope x__law_turned) _ _ from ⟨rfl, by decide +kernel, by decide +kernel, by decide +kernel, by decide +kernel⟩) (fun _ _ _ _ _ => g_tup rfl (gs_cons (g_name (i := 7) hN rfl (.inl rfl) (show 7 ∉ others 10 [7, 8, 9] from by decide)) (gs_cons (g_name (i := 8) hN rfl (.inl rfl) (show 8 ∉ others 10 [7, 8, 9] from by decide)) (gs_cons (g_name (i := 9) hN rfl (.inl rfl) (show 9 ∉ others 10 [7, 8, 9] from by decide)) (gs_nil))))) (fun _ _ _ _ _ => ts_nil) (fun _ _ _ _ _ => e_tup (a_cons (e_rd 7 (pv 7)) (a_cons (e_bin op_subG pr_tt (e_bin op_subG (pr_pt 3) (pv 3) (e_look (e_c pe_int fun _ => repI))) (e_pk 8 (pv 8))) (a_cons (e_rd 9 (pv 9)) (a_nil))))))))))
    (s_one (s_ret (e_tup (a_cons (e_rd 2 (pv 2)) (a_cons (e_rd 3 (pv 3)) (a_cons (e_rd 6 (pv 6)) (a_cons (e_callTy cb_tuple rfl E.tuple (by first | rfl | kernel_rfl) (r_one (e_look (e_lc (own := [((PySem.Str.ofString "_law_up"), 7), ((PySem.Str.ofString "_law_at"), 8)]) rfl hN (i_seq (e_rd 5 (pv 5))) (show BlkOk [(PySem.Str.ofString "_law_floor_here"), (PySem.Str.ofString "_law_way"), (PySem.Str.ofString "_law_high"), (PySem.Str.ofString "_law_wide"), (PySem.Str.ofString "_law_posts"), (PySem.Str.ofString "_law_clothes"), (PySem.Str.ofString "_law_some"), (PySem.Str.ofString "_law_up"), (PySem.Str.ofString "_law_at"), (PySem.Str.ofString "_law_tall")] (defScope x__law_turned) _ _ from ⟨rfl, by decide +kernel, by decide +kernel, by decide +kernel, by decide +kernel⟩) (fun _ _ _ _ _ => g_tup rfl (gs_cons (g_name (i := 7) hN rfl (.inl rfl) (show 7 ∉ others 10 [7, 8] from by decide)) (gs_cons (g_name (i := 8) hN rfl (.inl rfl) (show 8 ∉ others 10 [7, 8] from by decide)) (gs_nil)))) (fun _ _ _ _ _ => ts_nil) (fun _ _ _ _ _ => e_tup (a_cons (e_rd 7 (pv 7)) (a_cons (e_bin op_subG pr_tt (e_bin op_subG (pr_pt 3) (pv 3) (e_look (e_c pe_int fun _ => repI))) (e_pk 8 (pv 8))) (a_nil)))))))) (a_nil))))))))) (s_nil))
    (s_cons (s_set (i := 6) hN rfl (.inl rfl) (by decide) (e_callTy cb_tuple rfl E.tuple (by first | rfl | kernel_rfl) (r_one (e_look (e_lc (own := [((PySem.Str.ofString "_law_up"), 7), ((PySem.Str.ofString "_law_at"), 8), ((PySem.Str.ofString "_law_tall"), 9)]) rfl hN (i_seq (e_rd 4 (pv 4))) (show BlkOk [(PySem.Str.ofString "_law_floor_here"), (PySem.Str.ofString "_law_way"), (PySem.Str.ofString "_law_high"), (PySem.Str.ofString "_law_wide"), (PySem.Str.ofString "_law_posts"), (PySem.Str.ofString "_law_clothes"), (PySem.Str.ofString "_law_some"), (PySem.Str.ofString "_law_up"), (PySem.Str.ofString "_law_at"), (PySem.Str.ofString "_law_tall")] (defScope x__law_turned) _ _ from ⟨rfl, by decide +kernel, by decide +kernel, by decide +kernel, by decide +kernel⟩) (fun _ _ _ _ _ => g_tup rfl (gs_cons (g_name (i := 7) hN rfl (.inl rfl) (show 7 ∉ others 10 [7, 8, 9] from by decide)) (gs_cons (g_name (i := 8) hN rfl (.inl rfl) (show 8 ∉ others 10 [7, 8, 9] from by decide)) (gs_cons (g_name (i := 9) hN rfl (.inl rfl) (show 9 ∉ others 10 [7, 8, 9] from by decide)) (gs_nil))))) (fun _ _ _ _ _ => ts_nil) (fun _ _ _ _ _ => e_tup (a_cons (e_rd 8 (pv 8)) (a_cons (e_rd 7 (pv 7)) (a_cons (e_rd 9 (pv 9)) (a_nil))))))))))
    (s_one (s_ret (e_tup (a_cons (e_rd 3 (pv 3)) (a_cons (e_rd 2 (pv 2)) (a_cons (e_rd 6 (pv 6)) (a_cons (e_callTy cb_tuple rfl E.tuple (by first | rfl | kernel_rfl) (r_one (e_look (e_lc (own := [((PySem.Str.ofString "_law_up"), 7), ((PySem.Str.ofString "_law_at"), 8)]) rfl hN (i_seq (e_rd 5 (pv 5))) (show BlkOk [(PySem.Str.ofString "_law_floor_here"), (PySem.Str.ofString "_law_way"), (PySem.Str.ofString "_law_high"), (PySem.Str.ofString "_law_wide"), (PySem.Str.ofString "_law_posts"), (PySem.Str.ofString "_law_clothes"), (PySem.Str.ofString "_law_some"), (PySem.Str.ofString "_law_up"), (PySem.Str.ofString "_law_at"), (PySem.Str.ofString "_law_tall")] (defScope x__law_turned) _ _ from ⟨rfl, by decide +kernel, by decide +kernel, by decide +kernel, by decide +kernel⟩) (fun _ _ _ _ _ => g_tup rfl (gs_cons (g_name (i := 7) hN rfl (.inl rfl) (show 7 ∉ others 10 [7, 8] from by decide)) (gs_cons (g_name (i := 8) hN rfl (.inl rfl) (show 8 ∉ others 10 [7, 8] from by decide)) (gs_nil)))) (fun _ _ _ _ _ => ts_nil) (fun _ _ _ _ _ => e_tup (a_cons (e_rd 8 (pv 8)) (a_cons (e_rd 7 (pv 7)) (a_nil)))))))) (a_nil))))))))))
theorem sc_all_cells : FnScope [(PySem.Str.ofString "floor"), (PySem.Str.ofString "row"), (PySem.Str.ofString "column")] [(PySem.Str.ofString "floor")] (defScope x_all_cells) := ⟨rfl, rfl, rfl, by decide +kernel, rfl, by decide +kernel, by decide +kernel⟩
theorem ok_all_cells (E : Env P w K mg ca)  {f : Addr} {fd : FuncData} (F : FnQ K (PySem.Str.ofString "all_cells") (PySem.Str.ofString "all_cells") x_all_cells f fd) : FnOk P w K mg base (L2.CX P w) 1 f fd [(PySem.Str.ofString "floor")] (spOf ⟨P, w, K, ca⟩ [false] m_all_cells) := by
  refine d_okD F sc_all_cells rfl (by decide) fun cdv A outer s H Ex hr => ?_
  have hu : (cxOf (L2.CX P w) P w K mg base [(PySem.Str.ofString "floor"), (PySem.Str.ofString "row"), (PySem.Str.ofString "column")] (PySem.Str.ofString "all_cells") (defScope x_all_cells) f cdv A outer s H Ex).A.units + 65 < cLine := hu_room hr
  have hN := sc_all_cells.nd
  have tk : Takes (cxOf (L2.CX P w) P w K mg base [(PySem.Str.ofString "floor"), (PySem.Str.ofString "row"), (PySem.Str.ofString "column")] (PySem.Str.ofString "all_cells") (defScope x_all_cells) f cdv A outer s H Ex) (fun cls d _ H => Ex cls d H) := takes_of rfl rfl rfl rfl
  exact s_one (s_ret (e_lc2 (own := [((PySem.Str.ofString "row"), 1), ((PySem.Str.ofString "column"), 2)]) (vs1 := [2]) rfl hN (i_rng1 rfl E.range (r_one (e_look (e_ix hu (pr_pt 0) (pv 0) (e_look (e_c pe_int fun _ => repI)))))) (show BlkOk [(PySem.Str.ofString "floor"), (PySem.Str.ofString "row"), (PySem.Str.ofString "column")] (defScope x_all_cells) _ _ from ⟨rfl, by decide +kernel, by decide +kernel, by decide +kernel, by decide +kernel⟩) (by decide) (fun _ _ _ _ _ => g_name (i := 1) hN rfl (.inl rfl) (show 1 ∉ others 3 [1, 2] from by decide)) (fun _ _ _ _ _ => ts_nil) (fun _ _ _ _ _ => i_rng1 rfl E.range (r_one (e_look (e_ix hu (pr_pt 0) (pv 0) (e_look (e_c pe_int fun _ => repI)))))) (fun _ _ _ _ _ => g_name (i := 2) hN rfl (.inl rfl) (show 2 ∉ others 3 [2] from by decide)) (fun _ _ _ _ _ => ts_nil) (fun _ _ _ _ _ => e_tup (a_cons (e_rd 1 (pv 1)) (a_cons (e_rd 2 (pv 2)) (a_nil))))))
theorem sc_is_number : FnScope [(PySem.Str.ofString "part"), (PySem.Str.ofString "low"), (PySem.Str.ofString "high")] [(PySem.Str.ofString "part"), (PySem.Str.ofString "low"), (PySem.Str.ofString "high")] (defScope x_is_number) := ⟨rfl, rfl, rfl, by decide +kernel, rfl, by decide +kernel, by decide +kernel⟩
theorem ok_is_number (E : Env P w K mg ca)  {f : Addr} {fd : FuncData} (F : FnQ K (PySem.Str.ofString "is_number") (PySem.Str.ofString "is_number") x_is_number f fd) : FnOk P w K mg base (L2.CX P w) 1 f fd [(PySem.Str.ofString "part"), (PySem.Str.ofString "low"), (PySem.Str.ofString "high")] (spOf ⟨P, w, K, ca⟩ [false, false, false] m_is_number) := by
  refine d_okD F sc_is_number rfl (by decide) fun cdv A outer s H Ex hr => ?_
  have hu : (cxOf (L2.CX P w) P w K mg base [(PySem.Str.ofString "part"), (PySem.Str.ofString "low"), (PySem.Str.ofString "high")] (PySem.Str.ofString "is_number") (defScope x_is_number) f cdv A outer s H Ex).A.units + 65 < cLine := hu_room hr
  have hN := sc_is_number.nd
  have tk : Takes (cxOf (L2.CX P w) P w K mg base [(PySem.Str.ofString "part"), (PySem.Str.ofString "low"), (PySem.Str.ofString "high")] (PySem.Str.ofString "is_number") (defScope x_is_number) f cdv A outer s H Ex) (fun cls d _ H => Ex cls d H) := takes_of rfl rfl rfl rfl
  exact s_one (s_ret (e_and (e_asb (e_callB cb_isi rfl E.isinstance (by first | rfl | kernel_rfl) (r_two (pr_pt 0) (pv 0) (e_look (e_gT E.int (by first | rfl | kernel_rfl)))))) (e_and (e_not (e_asb (e_callB cb_isi rfl E.isinstance (by first | rfl | kernel_rfl) (r_two (pr_pt 0) (pv 0) (e_look (e_gT E.bool (by first | rfl | kernel_rfl))))))) (pe_one (e_chain (op_leC) (op_leC) (e_pk 1 (pv 1)) (e_pk 0 (pv 0)) (e_pk 2 (pv 2)))))))
theorem sc_is_cell : FnScope [(PySem.Str.ofString "part"), (PySem.Str.ofString "floor")] [(PySem.Str.ofString "part"), (PySem.Str.ofString "floor")] (defScope x_is_cell) := ⟨rfl, rfl, rfl, by decide +kernel, rfl, by decide +kernel, by decide +kernel⟩
theorem ok_is_cell (E : Env P w K mg ca) (O_is_number : Own P w K mg base ca 1 (PySem.Str.ofString "is_number") [(PySem.Str.ofString "part"), (PySem.Str.ofString "low"), (PySem.Str.ofString "high")] [false, false, false] m_is_number) {f : Addr} {fd : FuncData} (F : FnQ K (PySem.Str.ofString "is_cell") (PySem.Str.ofString "is_cell") x_is_cell f fd) : FnOk P w K mg base (L2.CX P w) 2 f fd [(PySem.Str.ofString "part"), (PySem.Str.ofString "floor")] (spOf ⟨P, w, K, ca⟩ [false, false] m_is_cell) := by
  refine d_okD F sc_is_cell rfl (by decide) fun cdv A outer s H Ex hr => ?_
  have hu : (cxOf (L2.CX P w) P w K mg base [(PySem.Str.ofString "part"), (PySem.Str.ofString "floor")] (PySem.Str.ofString "is_cell") (defScope x_is_cell) f cdv A outer s H Ex).A.units + 65 < cLine := hu_room hr
  have hN := sc_is_cell.nd
  have tk : Takes (cxOf (L2.CX P w) P w K mg base [(PySem.Str.ofString "part"), (PySem.Str.ofString "floor")] (PySem.Str.ofString "is_cell") (defScope x_is_cell) f cdv A outer s H Ex) (fun cls d _ H => Ex cls d H) := takes_of rfl rfl rfl rfl
  exact s_cons (s_if (PW.pt (t_or (t_not (t_val (e_look (e_callB cb_isi rfl E.isinstance (by first | rfl | kernel_rfl) (r_two (pr_pt 0) (pv 0) (e_look (e_gT E.tuple (by first | rfl | kernel_rfl)))))))) (pw_or1 (t_cmp (op_neC (Nat.lt_of_succ_lt hu)) pr_tt (e_callB cb_len rfl E.len (by first | rfl | kernel_rfl) (r_one (e_pk 0 (pv 0)))) (e_look (e_c pe_int fun _ => repI)) (nomark _))))) (s_one (s_ret (e_c pe_bl fun _ => repB))) (s_nil))
    (s_one (s_ret (e_and (e_asb (e_own O_is_number hr (by decide) tk rfl (m_cons (e_ix hu (pr_pt 0) (pv 0) (e_look (e_c pe_int fun _ => repI))) (m_cons (e_c pe_int fun _ => repI) (m_cons (e_bin op_subG pr_tt (e_ix hu (pr_pt 1) (pv 1) (e_look (e_c pe_int fun _ => repI))) (e_look (e_c pe_int fun _ => repI))) (m_nil)))))) (pe_one (e_asb (e_own O_is_number hr (by decide) tk rfl (m_cons (e_ix hu (pr_pt 0) (pv 0) (e_look (e_c pe_int fun _ => repI))) (m_cons (e_c pe_int fun _ => repI) (m_cons (e_bin op_subG pr_tt (e_ix hu (pr_pt 1) (pv 1) (e_look (e_c pe_int fun _ => repI))) (e_look (e_c pe_int fun _ => repI))) (m_nil))))))))))
theorem sc_is_post : FnScope [(PySem.Str.ofString "part"), (PySem.Str.ofString "floor")] [(PySem.Str.ofString "part"), (PySem.Str.ofString "floor")] (defScope x_is_post) := ⟨rfl, rfl, rfl, by decide +kernel, rfl, by decide +kernel, by decide +kernel⟩
theorem ok_is_post (E : Env P w K mg ca) (O_is_cell : Own P w K mg base ca 2 (PySem.Str.ofString "is_cell") [(PySem.Str.ofString "part"), (PySem.Str.ofString "floor")] [false, false] m_is_cell) (O_is_number : Own P w K mg base ca 1 (PySem.Str.ofString "is_number") [(PySem.Str.ofString "part"), (PySem.Str.ofString "low"), (PySem.Str.ofString "high")] [false, false, false] m_is_number) {f : Addr} {fd : FuncData} (F : FnQ K (PySem.Str.ofString "is_post") (PySem.Str.ofString "is_post") x_is_post f fd) : FnOk P w K mg base (L2.CX P w) 3 f fd [(PySem.Str.ofString "part"), (PySem.Str.ofString "floor")] (spOf ⟨P, w, K, ca⟩ [false, false] m_is_post) := by
  refine d_okD F sc_is_post rfl (by decide) fun cdv A outer s H Ex hr => ?_
  have hu : (cxOf (L2.CX P w) P w K mg base [(PySem.Str.ofString "part"), (PySem.Str.ofString "floor")] (PySem.Str.ofString "is_post") (defScope x_is_post) f cdv A outer s H Ex).A.units + 65 < cLine := hu_room hr
  have hN := sc_is_post.nd
  have tk : Takes (cxOf (L2.CX P w) P w K mg base [(PySem.Str.ofString "part"), (PySem.Str.ofString "floor")] (PySem.Str.ofString "is_post") (defScope x_is_post) f cdv A outer s H Ex) (fun cls d _ H => Ex cls d H) := takes_of rfl rfl rfl rfl
  exact s_cons (s_if (PW.pt (t_or (t_not (t_val (e_look (e_callB cb_isi rfl E.isinstance (by first | rfl | kernel_rfl) (r_two (pr_pt 0) (pv 0) (e_look (e_gT E.tuple (by first | rfl | kernel_rfl)))))))) (pw_or1 (t_cmp (op_neC (Nat.lt_of_succ_lt hu)) pr_tt (e_callB cb_len rfl E.len (by first | rfl | kernel_rfl) (r_one (e_pk 0 (pv 0)))) (e_look (e_c pe_int fun _ => repI)) (nomark _))))) (s_one (s_ret (e_c pe_bl fun _ => repB))) (s_nil))
    (s_one (s_ret (e_and (e_asb (e_own O_is_cell hr (by decide) tk rfl (m_cons (e_sliP 0 (pv 0) p_none (p_some (e_look (e_c pe_int fun _ => repI)))) (m_cons (e_rd 1 (pv 1)) (m_nil))))) (pe_one (e_asb (e_own O_is_number hr (by decide) tk rfl (m_cons (e_ix hu (pr_pt 0) (pv 0) (e_look (e_c pe_int fun _ => repI))) (m_cons (e_c pe_int fun _ => repI) (m_cons (e_gI E.MOST_HIGH) (m_nil))))))))))
theorem sc_need_floor : FnScope [(PySem.Str.ofString "floor"), (PySem.Str.ofString "number"), (PySem.Str.ofString "part"), (PySem.Str.ofString "most"), (PySem.Str.ofString "known"), (PySem.Str.ofString "one"), (PySem.Str.ofString "good")] [(PySem.Str.ofString "floor")] (defScope x_need_floor) := ⟨rfl, rfl, rfl, by decide +kernel, rfl, by decide +kernel, by decide +kernel⟩
theorem ok_need_floor (E : Env P w K mg ca) (O_is_cell : Own P w K mg base ca 2 (PySem.Str.ofString "is_cell") [(PySem.Str.ofString "part"), (PySem.Str.ofString "floor")] [false, false] m_is_cell) (O_is_number : Own P w K mg base ca 1 (PySem.Str.ofString "is_number") [(PySem.Str.ofString "part"), (PySem.Str.ofString "low"), (PySem.Str.ofString "high")] [false, false, false] m_is_number) (O_is_post : Own P w K mg base ca 3 (PySem.Str.ofString "is_post") [(PySem.Str.ofString "part"), (PySem.Str.ofString "floor")] [false, false] m_is_post) {f : Addr} {fd : FuncData} (F : FnQ K (PySem.Str.ofString "need_floor") (PySem.Str.ofString "need_floor") x_need_floor f fd) : FnOk P w K mg base (L2.CX P w) 4 f fd [(PySem.Str.ofString "floor")] (spOf ⟨P, w, K, ca⟩ [false] m_need_floor) := by
  refine d_okD F sc_need_floor rfl (by decide) fun cdv A outer s H Ex hr => ?_
  have hu : (cxOf (L2.CX P w) P w K mg base [(PySem.Str.ofString "floor"), (PySem.Str.ofString "number"), (PySem.Str.ofString "part"), (PySem.Str.ofString "most"), (PySem.Str.ofString "known"), (PySem.Str.ofString "one"), (PySem.Str.ofString "good")] (PySem.Str.ofString "need_floor") (defScope x_need_floor) f cdv A outer s H Ex).A.units + 65 < cLine := hu_room hr
  have hN := sc_need_floor.nd
  have tk : Takes (cxOf (L2.CX P w) P w K mg base [(PySem.Str.ofString "floor"), (PySem.Str.ofString "number"), (PySem.Str.ofString "part"), (PySem.Str.ofString "most"), (PySem.Str.ofString "known"), (PySem.Str.ofString "one"), (PySem.Str.ofString "good")] (PySem.Str.ofString "need_floor") (defScope x_need_floor) f cdv A outer s H Ex) (fun cls d _ H => Ex cls d H) := takes_of rfl rfl rfl rfl
  exact s_cons (s_if (PW.pt (t_or (t_not (t_val (e_look (e_callB cb_isi rfl E.isinstance (by first | rfl | kernel_rfl) (r_two (pr_pt 0) (pv 0) (e_look (e_gT E.tuple (by first | rfl | kernel_rfl)))))))) (pw_or1 (t_cmp (op_neC (Nat.lt_of_succ_lt hu)) pr_tt (e_callB cb_len rfl E.len (by first | rfl | kernel_rfl) (r_one (e_pk 0 (pv 0)))) (e_look (e_c pe_int fun _ => repI)) (nomark _))))) (s_one (s_never)) (s_nil))
    (s_cons (s_for (passes_of rfl) rfl (i_rng1 rfl E.range (r_one (e_look (e_c pe_int fun _ => repI)))) (g_name (i := 1) hN rfl (.inl rfl) (by decide)) (s_one (s_if (t_not (t_val (e_look (e_own O_is_number hr (by decide) tk rfl (m_cons (e_ix hu (pr_pt 0) (pv 0) (e_pk 1 (pv 1))) (m_cons (e_c pe_int fun _ => repI) (m_cons (e_gI E.MOST_SIDE) (m_nil)))))))) (s_one (s_never)) (s_nil))))
    (s_one (s_for (passes_of rfl) rfl (i_seq (e_tup (a_cons (e_tup (a_cons (e_c pe_int fun _ => repI) (a_cons (e_gI E.MOST_POSTS) (a_nil)))) (a_cons (e_tup (a_cons (e_c pe_int fun _ => repI) (a_cons (e_gI E.MOST_AWNINGS) (a_nil)))) (a_nil))))) (g_tup rfl (gs_cons (g_name (i := 2) hN rfl (.inl rfl) (by decide)) (gs_cons (g_name (i := 3) hN rfl (.inl rfl) (by decide)) (gs_nil)))) (s_cons (s_if (t_not (t_val (e_look (e_callB cb_isi rfl E.isinstance (by first | rfl | kernel_rfl) (r_two pr_tt (e_ix hu (pr_pt 0) (pv 0) (e_pk 2 (pv 2))) (e_look (e_gT E.tuple (by first | rfl | kernel_rfl)))))))) (s_one (s_never)) (s_nil))
    (s_cons (s_set (i := 4) hN rfl (.inl rfl) (by decide) (e_lst (a_nil)))
    (s_one (s_for (passes_of rfl) rfl (i_enum rfl E.enumerate (e_ix hu (pr_pt 0) (pv 0) (e_pk 2 (pv 2)))) (g_tup rfl (gs_cons (g_name (i := 1) hN rfl (.inl rfl) (by decide)) (gs_cons (g_name (i := 5) hN rfl (.inl rfl) (by decide)) (gs_nil)))) (s_cons (s_set (i := 6) hN rfl (.inl rfl) (by decide) (e_ite (t_cmp (op_eqC (Nat.lt_of_succ_lt hu)) (pr_pt 2) (pv 2) (e_look (e_c pe_int fun _ => repI)) (nomark _)) (e_own O_is_post hr (by decide) tk rfl (m_cons (e_rd 5 (pv 5)) (m_cons (e_rd 0 (pv 0)) (m_nil)))) (e_own O_is_cell hr (by decide) tk rfl (m_cons (e_rd 5 (pv 5)) (m_cons (e_rd 0 (pv 0)) (m_nil))))))
    (s_cons (s_if (PW.pt (t_or (t_cmp (op_eqC (Nat.lt_of_succ_lt hu)) (pr_pt 1) (pv 1) (e_pk 3 (pv 3)) (nomark _)) (t_or (t_not (t_val (e_pk 6 (pv 6)))) (pw_or1 (t_cmp ((op_inE hu)) pr_tt (e_sliP 5 (pv 5) p_none (p_some (e_look (e_c pe_int fun _ => repI)))) (e_pk 4 (pv 4)) (by with_unfolding_all rfl)))))) (s_one (s_never)) (s_nil))
    (s_one (s_expr (e_append 4 (pv 4) (e_sliP 5 (pv 5) p_none (p_some (e_look (e_c pe_int fun _ => repI))))))))))))))))
theorem sc_need_sun : FnScope [(PySem.Str.ofString "sun"), (PySem.Str.ofString "number"), (PySem.Str.ofString "sign")] [(PySem.Str.ofString "sun")] (defScope x_need_sun) := ⟨rfl, rfl, rfl, by decide +kernel, rfl, by decide +kernel, by decide +kernel⟩
theorem ok_need_sun (E : Env P w K mg ca)  {f : Addr} {fd : FuncData} (F : FnQ K (PySem.Str.ofString "need_sun") (PySem.Str.ofString "need_sun") x_need_sun f fd) : FnOk P w K mg base (L2.CX P w) 1 f fd [(PySem.Str.ofString "sun")] (spOf ⟨P, w, K, ca⟩ [false] m_need_sun) := by
  refine d_okD F sc_need_sun rfl (by decide) fun cdv A outer s H Ex hr => ?_
  have hu : (cxOf (L2.CX P w) P w K mg base [(PySem.Str.ofString "sun"), (PySem.Str.ofString "number"), (PySem.Str.ofString "sign")] (PySem.Str.ofString "need_sun") (defScope x_need_sun) f cdv A outer s H Ex).A.units + 65 < cLine := hu_room hr
  have hN := sc_need_sun.nd
  have tk : Takes (cxOf (L2.CX P w) P w K mg base [(PySem.Str.ofString "sun"), (PySem.Str.ofString "number"), (PySem.Str.ofString "sign")] (PySem.Str.ofString "need_sun") (defScope x_need_sun) f cdv A outer s H Ex) (fun cls d _ H => Ex cls d H) := takes_of rfl rfl rfl rfl
  exact s_cons (s_if (PW.pt (t_or (t_not (t_val (e_look (e_callB cb_isi rfl E.isinstance (by first | rfl | kernel_rfl) (r_two (pr_pt 0) (pv 0) (e_look (e_gT E.str (by first | rfl | kernel_rfl)))))))) (pw_or1 (t_cmp (op_eqC (Nat.lt_of_succ_lt hu)) (pr_pt 0) (pv 0) (e_look (e_c pe_str fun _ => repS)) (nomark _))))) (s_one (s_never)) (s_nil))
    (s_one (s_for (passes_of rfl) rfl (i_enum rfl E.enumerate (e_rd 0 (pv 0))) (g_tup rfl (gs_cons (g_name (i := 1) hN rfl (.inl rfl) (by decide)) (gs_cons (g_name (i := 2) hN rfl (.inl rfl) (by decide)) (gs_nil)))) (s_one (s_if (PW.pt (t_or (t_cmp (op_eqC (Nat.lt_of_succ_lt hu)) (pr_pt 1) (pv 1) (e_look (e_gI E.MOST_BEATS)) (nomark _)) (pw_or1 (t_cmp ((op_ninE hu)) (pr_pt 2) (pv 2) (e_look (e_gD E.STEPS)) (by with_unfolding_all rfl))))) (s_one (s_never)) (s_nil)))))
theorem sc_shaded : FnScope [(PySem.Str.ofString "floor"), (PySem.Str.ofString "sign"), (PySem.Str.ofString "down"), (PySem.Str.ofString "right"), (PySem.Str.ofString "found"), (PySem.Str.ofString "row"), (PySem.Str.ofString "column"), (PySem.Str.ofString "high"), (PySem.Str.ofString "far"), (PySem.Str.ofString "cell")] [(PySem.Str.ofString "floor"), (PySem.Str.ofString "sign")] (defScope x_shaded) := ⟨rfl, rfl, rfl, by decide +kernel, rfl, by decide +kernel, by decide +kernel⟩
theorem ok_shaded (E : Env P w K mg ca) (O_all_cells : Own P w K mg base ca 1 (PySem.Str.ofString "all_cells") [(PySem.Str.ofString "floor")] [false] m_all_cells) {f : Addr} {fd : FuncData} (F : FnQ K (PySem.Str.ofString "shaded") (PySem.Str.ofString "shaded") x_shaded f fd) : FnOk P w K mg base (L2.CX P w) 2 f fd [(PySem.Str.ofString "floor"), (PySem.Str.ofString "sign")] (spOf ⟨P, w, K, ca⟩ [false, false] m_shaded) := by
  refine d_okD F sc_shaded rfl (by decide) fun cdv A outer s H Ex hr => ?_
  have hu : (cxOf (L2.CX P w) P w K mg base [(PySem.Str.ofString "floor"), (PySem.Str.ofString "sign"), (PySem.Str.ofString "down"), (PySem.Str.ofString "right"), (PySem.Str.ofString "found"), (PySem.Str.ofString "row"), (PySem.Str.ofString "column"), (PySem.Str.ofString "high"), (PySem.Str.ofString "far"), (PySem.Str.ofString "cell")] (PySem.Str.ofString "shaded") (defScope x_shaded) f cdv A outer s H Ex).A.units + 65 < cLine := hu_room hr
  have hN := sc_shaded.nd
  have tk : Takes (cxOf (L2.CX P w) P w K mg base [(PySem.Str.ofString "floor"), (PySem.Str.ofString "sign"), (PySem.Str.ofString "down"), (PySem.Str.ofString "right"), (PySem.Str.ofString "found"), (PySem.Str.ofString "row"), (PySem.Str.ofString "column"), (PySem.Str.ofString "high"), (PySem.Str.ofString "far"), (PySem.Str.ofString "cell")] (PySem.Str.ofString "shaded") (defScope x_shaded) f cdv A outer s H Ex) (fun cls d _ H => Ex cls d H) := takes_of rfl rfl rfl rfl
  exact s_cons (s_asg (e_ix hu pr_tt (e_gD E.STEPS) (e_pk 1 (pv 1))) (g_tup rfl (gs_cons (g_name (i := 2) hN rfl (.inl rfl) (by decide)) (gs_cons (g_name (i := 3) hN rfl (.inl rfl) (by decide)) (gs_nil)))))
    (s_cons (s_set (i := 4) hN rfl (.inr rfl) (by decide) (e_dnew))
    (s_cons (s_for (passes_of rfl) rfl (i_seq (e_ix hu (pr_pt 0) (pv 0) (e_look (e_c pe_int fun _ => repI)))) (g_tup rfl (gs_cons (g_name (i := 5) hN rfl (.inl rfl) (by decide)) (gs_cons (g_name (i := 6) hN rfl (.inl rfl) (by decide)) (gs_cons (g_name (i := 7) hN rfl (.inl rfl) (by decide)) (gs_nil))))) (s_one (s_for (passes_of rfl) rfl (i_rng2 rfl E.range (r_two pr_tt (e_c pe_int fun _ => repI) (e_look (e_ite (t_cmp (op_neC (Nat.lt_of_succ_lt hu)) (pr_pt 1) (pv 1) (e_look (e_gS E.OVERHEAD)) (nomark _)) (e_bin op_addG (pr_pt 7) (pv 7) (e_look (e_c pe_int fun _ => repI))) (e_c pe_int fun _ => repI))))) (g_name (i := 8) hN rfl (.inl rfl) (by decide)) (s_one (s_asg (e_c pe_bl fun _ => repB) (g_sub 4 hu (pv 4) (e_tup (a_cons (e_bin op_addG (pr_pt 5) (pv 5) (e_look (e_bin op_mulG (pr_pt 2) (pv 2) (e_pk 8 (pv 8))))) (a_cons (e_bin op_addG (pr_pt 6) (pv 6) (e_look (e_bin op_mulG (pr_pt 3) (pv 3) (e_pk 8 (pv 8))))) (a_nil))))))))))
    (s_cons (s_for (passes_of rfl) rfl (i_seq (e_ix hu (pr_pt 0) (pv 0) (e_look (e_c pe_int fun _ => repI)))) (g_tup rfl (gs_cons (g_name (i := 5) hN rfl (.inl rfl) (by decide)) (gs_cons (g_name (i := 6) hN rfl (.inl rfl) (by decide)) (gs_nil)))) (s_one (s_asg (e_c pe_bl fun _ => repB) (g_sub 4 hu (pv 4) (e_tup (a_cons (e_bin op_addG (pr_pt 5) (pv 5) (e_pk 2 (pv 2))) (a_cons (e_bin op_addG (pr_pt 6) (pv 6) (e_pk 3 (pv 3))) (a_nil))))))))
    (s_one (s_ret (e_dc (own := [((PySem.Str.ofString "cell"), 9)]) hu rfl hN (i_seq (e_own O_all_cells hr (by decide) tk rfl (m_cons (e_rd 0 (pv 0)) (m_nil)))) (show BlkOk [(PySem.Str.ofString "floor"), (PySem.Str.ofString "sign"), (PySem.Str.ofString "down"), (PySem.Str.ofString "right"), (PySem.Str.ofString "found"), (PySem.Str.ofString "row"), (PySem.Str.ofString "column"), (PySem.Str.ofString "high"), (PySem.Str.ofString "far"), (PySem.Str.ofString "cell")] (defScope x_shaded) _ _ from ⟨rfl, by decide +kernel, by decide +kernel, by decide +kernel, by decide +kernel⟩) (fun _ _ _ _ _ => g_name (i := 9) hN rfl (.inl rfl) (show 9 ∉ others 10 [9] from by decide)) (fun _ _ _ _ _ => ts_one (t_cmp ((op_inE hu)) (pr_pt 9) (pv 9) (e_pk 4 (pv 4)) (by with_unfolding_all rfl))) (fun _ _ _ _ _ => e_rd 9 (pv 9)) (fun _ _ _ _ _ => e_c pe_bl fun _ => repB)))))))
theorem sc_parted : FnScope [(PySem.Str.ofString "floor"), (PySem.Str.ofString "other"), (PySem.Str.ofString "sun"), (PySem.Str.ofString "beat"), (PySem.Str.ofString "sign"), (PySem.Str.ofString "one"), (PySem.Str.ofString "two"), (PySem.Str.ofString "some"), (PySem.Str.ofString "cell")] [(PySem.Str.ofString "floor"), (PySem.Str.ofString "other"), (PySem.Str.ofString "sun")] (defScope x_parted) := ⟨rfl, rfl, rfl, by decide +kernel, rfl, by decide +kernel, by decide +kernel⟩
theorem ok_parted (E : Env P w K mg ca) (O_all_cells : Own P w K mg base ca 1 (PySem.Str.ofString "all_cells") [(PySem.Str.ofString "floor")] [false] m_all_cells) (O_need_floor : Own P w K mg base ca 4 (PySem.Str.ofString "need_floor") [(PySem.Str.ofString "floor")] [false] m_need_floor) (O_need_sun : Own P w K mg base ca 1 (PySem.Str.ofString "need_sun") [(PySem.Str.ofString "sun")] [false] m_need_sun) (O_shaded : Own P w K mg base ca 2 (PySem.Str.ofString "shaded") [(PySem.Str.ofString "floor"), (PySem.Str.ofString "sign")] [false, false] m_shaded) {f : Addr} {fd : FuncData} (F : FnQ K (PySem.Str.ofString "parted") (PySem.Str.ofString "parted") x_parted f fd) : FnOk P w K mg base (L2.CX P w) 5 f fd [(PySem.Str.ofString "floor"), (PySem.Str.ofString "other"), (PySem.Str.ofString "sun")] (spOf ⟨P, w, K, ca⟩ [false, false, false] m_parted) := by
  refine d_okD F sc_parted rfl (by decide) fun cdv A outer s H Ex hr => ?_
  have hu : (cxOf (L2.CX P w) P w K mg base [(PySem.Str.ofString "floor"), (PySem.Str.ofString "other"), (PySem.Str.ofString "sun"), (PySem.Str.ofString "beat"), (PySem.Str.ofString "sign"), (PySem.Str.ofString "one"), (PySem.Str.ofString "two"), (PySem.Str.ofString "some"), (PySem.Str.ofString "cell")] (PySem.Str.ofString "parted") (defScope x_parted) f cdv A outer s H Ex).A.units + 65 < cLine := hu_room hr
  have hN := sc_parted.nd
  have tk : Takes (cxOf (L2.CX P w) P w K mg base [(PySem.Str.ofString "floor"), (PySem.Str.ofString "other"), (PySem.Str.ofString "sun"), (PySem.Str.ofString "beat"), (PySem.Str.ofString "sign"), (PySem.Str.ofString "one"), (PySem.Str.ofString "two"), (PySem.Str.ofString "some"), (PySem.Str.ofString "cell")] (PySem.Str.ofString "parted") (defScope x_parted) f cdv A outer s H Ex) (fun cls d _ H => Ex cls d H) := takes_of rfl rfl rfl rfl
  exact s_cons (s_expr (e_own O_need_floor hr (by decide) tk rfl (m_cons (e_rd 0 (pv 0)) (m_nil))))
    (s_cons (s_expr (e_own O_need_floor hr (by decide) tk rfl (m_cons (e_rd 1 (pv 1)) (m_nil))))
    (s_cons (s_expr (e_own O_need_sun hr (by decide) tk rfl (m_cons (e_rd 2 (pv 2)) (m_nil))))
    (s_cons (s_for (passes_of rfl) rfl (i_enum rfl E.enumerate (e_rd 2 (pv 2))) (g_tup rfl (gs_cons (g_name (i := 3) hN rfl (.inl rfl) (by decide)) (gs_cons (g_name (i := 4) hN rfl (.inl rfl) (by decide)) (gs_nil)))) (s_cons (s_tup2 rfl hN (i := 5) (j := 6) rfl rfl (by decide) (by decide) (.inr rfl) (.inr rfl) (a_cons (e_own O_shaded hr (by decide) tk rfl (m_cons (e_rd 0 (pv 0)) (m_cons (e_rd 4 (pv 4)) (m_nil)))) (a_cons (e_own O_shaded hr (by decide) tk rfl (m_cons (e_rd 1 (pv 1)) (m_cons (e_rd 4 (pv 4)) (m_nil)))) (a_nil))))
    (s_cons (s_setLc (own := [((PySem.Str.ofString "cell"), 8)]) (i := 7) rfl hN rfl rfl (by decide) rfl (i_seq (e_bin op_addG pr_tt (e_own O_all_cells hr (by decide) tk rfl (m_cons (e_rd 0 (pv 0)) (m_nil))) (e_look (e_own O_all_cells hr (by decide) tk rfl (m_cons (e_rd 1 (pv 1)) (m_nil)))))) (show BlkOk [(PySem.Str.ofString "floor"), (PySem.Str.ofString "other"), (PySem.Str.ofString "sun"), (PySem.Str.ofString "beat"), (PySem.Str.ofString "sign"), (PySem.Str.ofString "one"), (PySem.Str.ofString "two"), (PySem.Str.ofString "some"), (PySem.Str.ofString "cell")] (defScope x_parted) _ _ from ⟨rfl, by decide +kernel, by decide +kernel, by decide +kernel, by decide +kernel⟩) (fun _ _ _ _ _ => g_name (i := 8) hN rfl (.inl rfl) (show 8 ∉ others 9 [8] from by decide)) (fun _ _ _ _ _ => ts_one (t_cmp (op_neC (Nat.lt_of_succ_lt hu)) pr_tt (e_cmp ((op_inE hu)) (pr_pt 8) (pv 8) (e_pk 5 (pv 5)) (by with_unfolding_all rfl)) (e_look (e_cmp ((op_inE hu)) (pr_pt 8) (pv 8) (e_pk 6 (pv 6)) (by with_unfolding_all rfl))) (nomark _))) (fun _ _ _ _ _ => e_rd 8 (pv 8)))
    (s_one (s_if (t_cmp (op_neC (Nat.lt_of_succ_lt hu)) (pr_pt 7) (pv 7) (e_look (e_lst (a_nil))) (nomark _)) (s_one (s_ret (e_tup (a_cons (e_rd 3 (pv 3)) (a_cons (e_callB (cb_min rfl hu) rfl E.min (by first | rfl | kernel_rfl) (r_one (e_pk 7 (pv 7)))) (a_nil)))))) (s_nil))))))
    (s_one (s_ret (e_c pe_non fun _ => repN))))))
theorem sc_need_count : FnScope [(PySem.Str.ofString "number"), (PySem.Str.ofString "low"), (PySem.Str.ofString "high")] [(PySem.Str.ofString "number"), (PySem.Str.ofString "low"), (PySem.Str.ofString "high")] (defScope x_need_count) := ⟨rfl, rfl, rfl, by decide +kernel, rfl, by decide +kernel, by decide +kernel⟩
theorem ok_need_count (E : Env P w K mg ca) (O_is_number : Own P w K mg base ca 1 (PySem.Str.ofString "is_number") [(PySem.Str.ofString "part"), (PySem.Str.ofString "low"), (PySem.Str.ofString "high")] [false, false, false] m_is_number) {f : Addr} {fd : FuncData} (F : FnQ K (PySem.Str.ofString "need_count") (PySem.Str.ofString "need_count") x_need_count f fd) : FnOk P w K mg base (L2.CX P w) 2 f fd [(PySem.Str.ofString "number"), (PySem.Str.ofString "low"), (PySem.Str.ofString "high")] (spOf ⟨P, w, K, ca⟩ [false, false, false] m_need_count) := by
  refine d_okD F sc_need_count rfl (by decide) fun cdv A outer s H Ex hr => ?_
  have hu : (cxOf (L2.CX P w) P w K mg base [(PySem.Str.ofString "number"), (PySem.Str.ofString "low"), (PySem.Str.ofString "high")] (PySem.Str.ofString "need_count") (defScope x_need_count) f cdv A outer s H Ex).A.units + 65 < cLine := hu_room hr
  have hN := sc_need_count.nd
  have tk : Takes (cxOf (L2.CX P w) P w K mg base [(PySem.Str.ofString "number"), (PySem.Str.ofString "low"), (PySem.Str.ofString "high")] (PySem.Str.ofString "need_count") (defScope x_need_count) f cdv A outer s H Ex) (fun cls d _ H => Ex cls d H) := takes_of rfl rfl rfl rfl
  exact s_one (s_if (t_not (t_val (e_look (e_own O_is_number hr (by decide) tk rfl (m_cons (e_rd 0 (pv 0)) (m_cons (e_rd 1 (pv 1)) (m_cons (e_rd 2 (pv 2)) (m_nil)))))))) (s_one (s_never)) (s_nil))
theorem sc_shade : FnScope [(PySem.Str.ofString "floor"), (PySem.Str.ofString "sun"), (PySem.Str.ofString "beat")] [(PySem.Str.ofString "floor"), (PySem.Str.ofString "sun"), (PySem.Str.ofString "beat")] (defScope x_shade) := ⟨rfl, rfl, rfl, by decide +kernel, rfl, by decide +kernel, by decide +kernel⟩
theorem ok_shade (E : Env P w K mg ca) (O_need_count : Own P w K mg base ca 2 (PySem.Str.ofString "need_count") [(PySem.Str.ofString "number"), (PySem.Str.ofString "low"), (PySem.Str.ofString "high")] [false, false, false] m_need_count) (O_need_floor : Own P w K mg base ca 4 (PySem.Str.ofString "need_floor") [(PySem.Str.ofString "floor")] [false] m_need_floor) (O_need_sun : Own P w K mg base ca 1 (PySem.Str.ofString "need_sun") [(PySem.Str.ofString "sun")] [false] m_need_sun) (O_shaded : Own P w K mg base ca 2 (PySem.Str.ofString "shaded") [(PySem.Str.ofString "floor"), (PySem.Str.ofString "sign")] [false, false] m_shaded) {f : Addr} {fd : FuncData} (F : FnQ K (PySem.Str.ofString "shade") (PySem.Str.ofString "shade") x_shade f fd) : FnOk P w K mg base (L2.CX P w) 5 f fd [(PySem.Str.ofString "floor"), (PySem.Str.ofString "sun"), (PySem.Str.ofString "beat")] (spOf ⟨P, w, K, ca⟩ [false, false, false] m_shade) := by
  refine d_okD F sc_shade rfl (by decide) fun cdv A outer s H Ex hr => ?_
  have hu : (cxOf (L2.CX P w) P w K mg base [(PySem.Str.ofString "floor"), (PySem.Str.ofString "sun"), (PySem.Str.ofString "beat")] (PySem.Str.ofString "shade") (defScope x_shade) f cdv A outer s H Ex).A.units + 65 < cLine := hu_room hr
  have hN := sc_shade.nd
  have tk : Takes (cxOf (L2.CX P w) P w K mg base [(PySem.Str.ofString "floor"), (PySem.Str.ofString "sun"), (PySem.Str.ofString "beat")] (PySem.Str.ofString "shade") (defScope x_shade) f cdv A outer s H Ex) (fun cls d _ H => Ex cls d H) := takes_of rfl rfl rfl rfl
  exact s_cons (s_expr (e_own O_need_floor hr (by decide) tk rfl (m_cons (e_rd 0 (pv 0)) (m_nil))))
    (s_cons (s_expr (e_own O_need_sun hr (by decide) tk rfl (m_cons (e_rd 1 (pv 1)) (m_nil))))
    (s_cons (s_expr (e_own O_need_count hr (by decide) tk rfl (m_cons (e_rd 2 (pv 2)) (m_cons (e_c pe_int fun _ => repI) (m_cons (e_bin op_powG pr_tt (e_c pe_int fun _ => repI) (e_look (e_c pe_int fun _ => repI))) (m_nil))))))
    (s_one (s_ret (e_callB (cb_sorted rfl hu) rfl E.sorted (by first | rfl | kernel_rfl) (r_one (e_look (e_own O_shaded hr (by decide) tk rfl (m_cons (e_rd 0 (pv 0)) (m_cons (e_ix hu (pr_pt 1) (pv 1) (e_look (e_bin op_modG (pr_pt 2) (pv 2) (e_look (e_callB cb_len rfl E.len (by first | rfl | kernel_rfl) (r_one (e_pk 1 (pv 1)))))))) (m_nil)))))))))))
theorem sc_law : FnScope [(PySem.Str.ofString "_law_script"), (PySem.Str.ofString "_law_row"), (PySem.Str.ofString "_law_turn"), (PySem.Str.ofString "_law_floor_here"), (PySem.Str.ofString "_law_sun_here"), (PySem.Str.ofString "_law_beat"), (PySem.Str.ofString "_law_high"), (PySem.Str.ofString "_law_wide"), (PySem.Str.ofString "_law_posts"), (PySem.Str.ofString "_law_clothes"), (PySem.Str.ofString "_law_whole"), (PySem.Str.ofString "_law_found"), (PySem.Str.ofString "_law_one"), (PySem.Str.ofString "_law_k"), (PySem.Str.ofString "_law_part"), (PySem.Str.ofString "_law_due"), (PySem.Str.ofString "_law_at"), (PySem.Str.ofString "_law_way"), (PySem.Str.ofString "_law_new"), (PySem.Str.ofString "_law_there"), (PySem.Str.ofString "_law_cell"), (PySem.Str.ofString "_law_sign"), (PySem.Str.ofString "_law_up")] [(PySem.Str.ofString "_law_script")] (defScope x_law) := ⟨rfl, rfl, rfl, by decide +kernel, rfl, by decide +kernel, by decide +kernel⟩
theorem ok_law (E : Env P w K mg ca) (O__law_floor : Own P w K mg base ca 2 (PySem.Str.ofString "_law_floor") [(PySem.Str.ofString "_law_row"), (PySem.Str.ofString "_law_size")] [true, false] m__law_floor) (O__law_sun : Own P w K mg base ca 2 (PySem.Str.ofString "_law_sun") [(PySem.Str.ofString "_law_row")] [true] m__law_sun) (O__law_taken : Own P w K mg base ca 1 (PySem.Str.ofString "_law_taken") [(PySem.Str.ofString "_law_row"), (PySem.Str.ofString "_law_many")] [true, false] m__law_taken) (O__law_turned : Own P w K mg base ca 1 (PySem.Str.ofString "_law_turned") [(PySem.Str.ofString "_law_floor_here"), (PySem.Str.ofString "_law_way")] [false, false] m__law_turned) (O_parted : Own P w K mg base ca 5 (PySem.Str.ofString "parted") [(PySem.Str.ofString "floor"), (PySem.Str.ofString "other"), (PySem.Str.ofString "sun")] [false, false, false] m_parted) (O_shade : Own P w K mg base ca 5 (PySem.Str.ofString "shade") [(PySem.Str.ofString "floor"), (PySem.Str.ofString "sun"), (PySem.Str.ofString "beat")] [false, false, false] m_shade) {f : Addr} {fd : FuncData} (F : FnQ K (PySem.Str.ofString "law") (PySem.Str.ofString "law") x_law f fd) : FnOk P w K mg base (L2.CX P w) 6 f fd [(PySem.Str.ofString "_law_script")] (spOf ⟨P, w, K, ca⟩ [false] m_law) := by
  refine d_okD F sc_law rfl (by decide) fun cdv A outer s H Ex hr => ?_
  have hu : (cxOf (L2.CX P w) P w K mg base [(PySem.Str.ofString "_law_script"), (PySem.Str.ofString "_law_row"), (PySem.Str.ofString "_law_turn"), (PySem.Str.ofString "_law_floor_here"), (PySem.Str.ofString "_law_sun_here"), (PySem.Str.ofString "_law_beat"), (PySem.Str.ofString "_law_high"), (PySem.Str.ofString "_law_wide"), (PySem.Str.ofString "_law_posts"), (PySem.Str.ofString "_law_clothes"), (PySem.Str.ofString "_law_whole"), (PySem.Str.ofString "_law_found"), (PySem.Str.ofString "_law_one"), (PySem.Str.ofString "_law_k"), (PySem.Str.ofString "_law_part"), (PySem.Str.ofString "_law_due"), (PySem.Str.ofString "_law_at"), (PySem.Str.ofString "_law_way"), (PySem.Str.ofString "_law_new"), (PySem.Str.ofString "_law_there"), (PySem.Str.ofString "_law_cell"), (PySem.Str.ofString "_law_sign"), (PySem.Str.ofString "_law_up")] (PySem.Str.ofString "law") (defScope x_law) f cdv A outer s H Ex).A.units + 65 < cLine := hu_room hr
  have hN := sc_law.nd
  have tk : Takes (cxOf (L2.CX P w) P w K mg base [(PySem.Str.ofString "_law_script"), (PySem.Str.ofString "_law_row"), (PySem.Str.ofString "_law_turn"), (PySem.Str.ofString "_law_floor_here"), (PySem.Str.ofString "_law_sun_here"), (PySem.Str.ofString "_law_beat"), (PySem.Str.ofString "_law_high"), (PySem.Str.ofString "_law_wide"), (PySem.Str.ofString "_law_posts"), (PySem.Str.ofString "_law_clothes"), (PySem.Str.ofString "_law_whole"), (PySem.Str.ofString "_law_found"), (PySem.Str.ofString "_law_one"), (PySem.Str.ofString "_law_k"), (PySem.Str.ofString "_law_part"), (PySem.Str.ofString "_law_due"), (PySem.Str.ofString "_law_at"), (PySem.Str.ofString "_law_way"), (PySem.Str.ofString "_law_new"), (PySem.Str.ofString "_law_there"), (PySem.Str.ofString "_law_cell"), (PySem.Str.ofString "_law_sign"), (PySem.Str.ofString "_law_up")] (PySem.Str.ofString "law") (defScope x_law) f cdv A outer s H Ex) (fun cls d _ H => Ex cls d H) := takes_of rfl rfl rfl rfl
  exact s_cons (s_set (i := 1) hN rfl (.inl rfl) (by decide) (e_lst (a_cons (e_rd 0 (pv 0)) (a_cons (e_c pe_int fun _ => repI) (a_cons (e_c pe_int fun _ => repI) (a_cons (e_c pe_int fun _ => repI) (a_nil)))))))
    (s_cons (s_for (passes_of rfl) rfl (i_rng1 rfl E.range (r_one (e_look (e_c pe_int fun _ => repI)))) (g_name (i := 2) hN rfl (.inl rfl) (by decide)) (s_cons (s_asg (e_tup (a_cons (e_own O__law_floor hr (by decide) tk rfl (m_ref 1 (pv 1) (m_cons (e_c pe_int fun _ => repI) (m_nil)))) (a_cons (e_own O__law_sun hr (by decide) tk rfl (m_ref 1 (pv 1) (m_nil))) (a_cons (e_own O__law_taken hr (by decide) tk rfl (m_ref 1 (pv 1) (m_cons (e_ix hu pr_tt (e_lst (a_cons (e_c pe_int fun _ => repI) (a_cons (e_bin op_powG pr_tt (e_c pe_int fun _ => repI) (e_look (e_c pe_int fun _ => repI))) (a_nil)))) (e_look (e_own O__law_taken hr (by decide) tk rfl (m_ref 1 (pv 1) (m_cons (e_c pe_int fun _ => repI) (m_nil)))))) (m_nil)))) (a_nil))))) (g_tup rfl (gs_cons (g_name (i := 3) hN rfl (.inl rfl) (by decide)) (gs_cons (g_name (i := 4) hN rfl (.inr rfl) (by decide)) (gs_cons (g_name (i := 5) hN rfl (.inl rfl) (by decide)) (gs_nil))))))
    (s_cons (s_asg (e_rd 3 (pv 3)) (g_tup rfl (gs_cons (g_name (i := 6) hN rfl (.inl rfl) (by decide)) (gs_cons (g_name (i := 7) hN rfl (.inr rfl) (by decide)) (gs_cons (g_name (i := 8) hN rfl (.inl rfl) (by decide)) (gs_cons (g_name (i := 9) hN rfl (.inl rfl) (by decide)) (gs_nil)))))))
    (s_cons (s_par2 rfl hN (i := 10) (j := 11) rfl rfl (by decide) (by decide) (by decide) rfl rfl (a_cons (e_own O_shade hr (by decide) tk rfl (m_cons (e_rd 3 (pv 3)) (m_cons (e_rd 4 (pv 4)) (m_cons (e_rd 5 (pv 5)) (m_nil))))) (a_cons (e_lst (a_nil)) (a_nil))) rfl)
    (s_cons (s_for (passes_of rfl) rfl (i_seq (e_rd 8 (pv 8))) (g_name (i := 12) hN rfl (.inl rfl) (by decide)) (s_one (s_set (i := 11) hN rfl (.inl rfl) (by decide) (e_bin op_addG (pr_pt 11) (pv 11) (e_look (e_own O_shade hr (by decide) tk rfl (m_cons (e_tup (a_cons (e_rd 6 (pv 6)) (a_cons (e_rd 7 (pv 7)) (a_cons (e_tup (a_cons (e_rd 12 (pv 12)) (a_nil))) (a_cons (e_tup (a_nil)) (a_nil)))))) (m_cons (e_rd 4 (pv 4)) (m_cons (e_rd 5 (pv 5)) (m_nil))))))))))
    (s_cons (s_for (passes_of rfl) rfl (i_seq (e_rd 9 (pv 9))) (g_name (i := 12) hN rfl (.inl rfl) (by decide)) (s_one (s_set (i := 11) hN rfl (.inl rfl) (by decide) (e_bin op_addG (pr_pt 11) (pv 11) (e_look (e_own O_shade hr (by decide) tk rfl (m_cons (e_tup (a_cons (e_rd 6 (pv 6)) (a_cons (e_rd 7 (pv 7)) (a_cons (e_tup (a_nil)) (a_cons (e_tup (a_cons (e_rd 12 (pv 12)) (a_nil))) (a_nil)))))) (m_cons (e_rd 4 (pv 4)) (m_cons (e_rd 5 (pv 5)) (m_nil))))))))))
    (s_cons (s_if (t_cmp (op_neC (Nat.lt_of_succ_lt hu)) (pr_pt 10) (pv 10) (e_look (e_srtSet rfl (Nat.lt_of_succ_lt hu) rfl E.sorted rfl E.set (e_pk 11 (pv 11)))) (nomark _)) (s_one (s_ret (e_c pe_bl fun _ => repB))) (s_nil))
    (s_cons (s_set (i := 13) hN rfl (.inl rfl) (by decide) (e_own O__law_taken hr (by decide) tk rfl (m_ref 1 (pv 1) (m_cons (e_bin op_addG pr_tt (e_callB cb_len rfl E.len (by first | rfl | kernel_rfl) (r_one (e_pk 9 (pv 9)))) (e_look (e_c pe_int fun _ => repI))) (m_nil)))))
    (s_cons (s_set (i := 14) hN rfl (.inr rfl) (by decide) (e_tup (a_cons (e_rd 6 (pv 6)) (a_cons (e_rd 7 (pv 7)) (a_cons (e_sliP 8 (pv 8) p_none (p_some (e_look (e_c pe_int fun _ => repI)))) (a_cons (e_sliP 9 (pv 9) p_none (p_some (e_pk 13 (pv 13)))) (a_nil)))))))
    (s_cons (s_set (i := 15) hN rfl (.inl rfl) (by decide) (e_lst (a_nil)))
    (s_cons (s_for (passes_of rfl) rfl (i_rng1 rfl E.range (r_one (e_look (e_callB cb_len rfl E.len (by first | rfl | kernel_rfl) (r_one (e_pk 4 (pv 4))))))) (g_name (i := 16) hN rfl (.inr rfl) (by decide)) (s_one (s_set (i := 15) hN rfl (.inl rfl) (by decide) (e_bin op_addG (pr_pt 15) (pv 15) (e_look (e_lc (own := [((PySem.Str.ofString "_law_cell"), 20)]) rfl hN (i_seq (e_own O_shade hr (by decide) tk rfl (m_cons (e_rd 3 (pv 3)) (m_cons (e_rd 4 (pv 4)) (m_cons (e_rd 16 (pv 16)) (m_nil)))))) (show BlkOk [(PySem.Str.ofString "_law_script"), (PySem.Str.ofString "_law_row"), (PySem.Str.ofString "_law_turn"), (PySem.Str.ofString "_law_floor_here"), (PySem.Str.ofString "_law_sun_here"), (PySem.Str.ofString "_law_beat"), (PySem.Str.ofString "_law_high"), (PySem.Str.ofString "_law_wide"), (PySem.Str.ofString "_law_posts"), (PySem.Str.ofString "_law_clothes"), (PySem.Str.ofString "_law_whole"), (PySem.Str.ofString "_law_found"), (PySem.Str.ofString "_law_one"), (PySem.Str.ofString "_law_k"), (PySem.Str.ofString "_law_part"), (PySem.Str.ofString "_law_due"), (PySem.Str.ofString "_law_at"), (PySem.Str.ofString "_law_way"), (PySem.Str.ofString "_law_new"), (PySem.Str.ofString "_law_there"), (PySem.Str.ofString "_law_cell"), (PySem.Str.ofString "_law_sign"), (PySem.Str.ofString "_law_up")] (defScope x_law) _ _ from ⟨rfl, by decide +kernel, by decide +kernel, by decide +kernel, by decide +kernel⟩) (fun _ _ _ _ _ => g_name (i := 20) hN rfl (.inl rfl) (show 20 ∉ others 23 [20] from by decide)) (fun _ _ _ _ _ => ts_one (t_cmp ((op_ninE hu)) (pr_pt 20) (pv 20) (e_look (e_own O_shade hr (by decide) L2.takes0 rfl (m_cons (e_rd 14 (pv 14)) (m_cons (e_rd 4 (pv 4)) (m_cons (e_rd 16 (pv 16)) (m_nil)))))) (by with_unfolding_all rfl))) (fun _ _ _ _ _ => e_tup (a_cons (e_rd 16 (pv 16)) (a_cons (e_rd 20 (pv 20)) (a_nil))))))))))
    (s_cons (s_if (PW.pt (t_or (t_cmp (op_neC (Nat.lt_of_succ_lt hu)) pr_tt (e_own O_parted hr (by decide) tk rfl (m_cons (e_rd 3 (pv 3)) (m_cons (e_rd 14 (pv 14)) (m_cons (e_rd 4 (pv 4)) (m_nil))))) (e_look (e_ix hu pr_tt (e_bin op_addG (pr_pt 15) (pv 15) (e_look (e_lst (a_cons (e_c pe_non fun _ => repN) (a_nil))))) (e_look (e_c pe_int fun _ => repI)))) (nomark _)) (pw_or1 (t_cmp (op_neC (Nat.lt_of_succ_lt hu)) pr_tt (e_own O_parted hr (by decide) tk rfl (m_cons (e_rd 14 (pv 14)) (m_cons (e_rd 3 (pv 3)) (m_cons (e_rd 4 (pv 4)) (m_nil))))) (e_look (e_ix hu pr_tt (e_bin op_addG (pr_pt 15) (pv 15) (e_look (e_lst (a_cons (e_c pe_non fun _ => repN) (a_nil))))) (e_look (e_c pe_int fun _ => repI)))) (nomark _))))) (s_one (s_ret (e_c pe_bl fun _ => repB))) (s_nil))
    (s_cons (s_if (t_cmp (op_isNC) pr_tt (e_own O_parted hr (by decide) tk rfl (m_cons (e_rd 3 (pv 3)) (m_cons (e_rd 3 (pv 3)) (m_cons (e_rd 4 (pv 4)) (m_nil))))) (e_look (e_c pe_non fun _ => repN)) (nomark _)) (s_one (s_ret (e_c pe_bl fun _ => repB))) (s_nil))
    (s_one (s_for (passes_of rfl) rfl (i_rng1 rfl E.range (r_one (e_look (e_c pe_int fun _ => repI)))) (g_name (i := 17) hN rfl (.inr rfl) (by decide)) (s_cons (s_set (i := 18) hN rfl (.inr rfl) (by decide) (e_dictZip rfl rfl E.dict rfl E.zip (a_cons (e_c pe_str fun _ => repS) (a_cons (e_ix hu pr_tt (e_lst (a_cons (e_c pe_str fun _ => repS) (a_cons (e_c pe_str fun _ => repS) (a_nil)))) (e_pk 17 (pv 17))) (a_nil)))))
    (s_cons (s_set (i := 19) hN rfl (.inl rfl) (by decide) (e_own O_shade hr (by decide) tk rfl (m_cons (e_own O__law_turned hr (by decide) tk rfl (m_cons (e_rd 3 (pv 3)) (m_cons (e_rd 17 (pv 17)) (m_nil)))) (m_cons (e_join (e_look (e_c pe_str fun _ => repS)) (e_look (e_lc (own := [((PySem.Str.ofString "_law_sign"), 21)]) rfl hN (i_seq (e_rd 4 (pv 4))) (show BlkOk [(PySem.Str.ofString "_law_script"), (PySem.Str.ofString "_law_row"), (PySem.Str.ofString "_law_turn"), (PySem.Str.ofString "_law_floor_here"), (PySem.Str.ofString "_law_sun_here"), (PySem.Str.ofString "_law_beat"), (PySem.Str.ofString "_law_high"), (PySem.Str.ofString "_law_wide"), (PySem.Str.ofString "_law_posts"), (PySem.Str.ofString "_law_clothes"), (PySem.Str.ofString "_law_whole"), (PySem.Str.ofString "_law_found"), (PySem.Str.ofString "_law_one"), (PySem.Str.ofString "_law_k"), (PySem.Str.ofString "_law_part"), (PySem.Str.ofString "_law_due"), (PySem.Str.ofString "_law_at"), (PySem.Str.ofString "_law_way"), (PySem.Str.ofString "_law_new"), (PySem.Str.ofString "_law_there"), (PySem.Str.ofString "_law_cell"), (PySem.Str.ofString "_law_sign"), (PySem.Str.ofString "_law_up")] (defScope x_law) _ _ from ⟨rfl, by decide +kernel, by decide +kernel, by decide +kernel, by decide +kernel⟩) (fun _ _ _ _ _ => g_name (i := 21) hN rfl (.inl rfl) (show 21 ∉ others 23 [21] from by decide)) (fun _ _ _ _ _ => ts_nil) (fun _ _ _ _ _ => e_ix hu (pr_pt 18) (pv 18) (e_pk 21 (pv 21)))))) (m_cons (e_rd 5 (pv 5)) (m_nil))))))
    (s_one (s_if (t_cmp (op_neC (Nat.lt_of_succ_lt hu)) (pr_pt 19) (pv 19) (e_look (e_callB (cb_sorted rfl hu) rfl E.sorted (by first | rfl | kernel_rfl) (r_one (e_look (e_lc (own := [((PySem.Str.ofString "_law_up"), 22), ((PySem.Str.ofString "_law_at"), 16)]) rfl hN (i_seq (e_rd 10 (pv 10))) (show BlkOk [(PySem.Str.ofString "_law_script"), (PySem.Str.ofString "_law_row"), (PySem.Str.ofString "_law_turn"), (PySem.Str.ofString "_law_floor_here"), (PySem.Str.ofString "_law_sun_here"), (PySem.Str.ofString "_law_beat"), (PySem.Str.ofString "_law_high"), (PySem.Str.ofString "_law_wide"), (PySem.Str.ofString "_law_posts"), (PySem.Str.ofString "_law_clothes"), (PySem.Str.ofString "_law_whole"), (PySem.Str.ofString "_law_found"), (PySem.Str.ofString "_law_one"), (PySem.Str.ofString "_law_k"), (PySem.Str.ofString "_law_part"), (PySem.Str.ofString "_law_due"), (PySem.Str.ofString "_law_at"), (PySem.Str.ofString "_law_way"), (PySem.Str.ofString "_law_new"), (PySem.Str.ofString "_law_there"), (PySem.Str.ofString "_law_cell"), (PySem.Str.ofString "_law_sign"), (PySem.Str.ofString "_law_up")] (defScope x_law) _ _ from ⟨rfl, by decide +kernel, by decide +kernel, by decide +kernel, by decide +kernel⟩) (fun _ _ _ _ _ => g_tup rfl (gs_cons (g_name (i := 22) hN rfl (.inl rfl) (show 22 ∉ others 23 [22, 16] from by decide)) (gs_cons (g_name (i := 16) hN rfl (.inl rfl) (show 16 ∉ others 23 [22, 16] from by decide)) (gs_nil)))) (fun _ _ _ _ _ => ts_nil) (fun _ _ _ _ _ => e_ite (t_cmp (op_eqC (Nat.lt_of_succ_lt hu)) (pr_pt 17) (pv 17) (e_look (e_c pe_int fun _ => repI)) (nomark _)) (e_tup (a_cons (e_rd 22 (pv 22)) (a_cons (e_bin op_subG pr_tt (e_bin op_subG (pr_pt 7) (pv 7) (e_look (e_c pe_int fun _ => repI))) (e_pk 16 (pv 16))) (a_nil)))) (e_tup (a_cons (e_rd 16 (pv 16)) (a_cons (e_rd 22 (pv 22)) (a_nil)))))))))) (nomark _)) (s_one (s_ret (e_c pe_bl fun _ => repB))) (s_nil))))))))))))))))))))
    (s_one (s_ret (e_c pe_bl fun _ => repB))))
end
end G

set_option Elab.async false
set_option linter.all false
set_option maxRecDepth 100000
set_option maxHeartbeats 0
namespace G
open PySem PySem.Spec PyProof.Rows L2 PF
def qs : List Str := []
def tbs (K : PySem.W.Frag) : List (Addr × Str) := (tf.map fun p => (He.cT K p).2).zip qs
theorem tbs_fst (K : PySem.W.Frag) : (tbs K).map (·.1) = tf.map fun p => (He.cT K p).2 := List.map_fst_zip (by rw [List.length_map]; decide)
/-- a def of tf: its code object, its table -/
theorem tbF_of {K : PySem.W.Frag} {base : Heap} {mg : Str → Option Value} {x qual : Str} {params : Arguments} {body : List Stmt} {scope : Scope} {fd : FuncData} (F : FunD K x qual params body scope [] [] (He.ga K x) fd) (hn : (tf.map fun p => (He.cT K p).2).Nodup)
    (TB : ∀ p ∈ tf.map (He.cT K), LamX.TabB base mg p.1 p.2) {at_ : Nat → Addr} (i : Nat) (hi : tf[i]? = some (x, none)) {q : Str} (hq : qs[i]? = some q) : TbF ⟨at_, tbs K, none⟩ base mg fd.code q := by
  obtain ⟨oc, od, dV, kV, doc, pm, an, cdv, ct, osl, rfl, lk, hcd, _, _⟩ := F.ex
  obtain ⟨c, rfl⟩ := He.codeIn_ref hcd
  have e1 : He.codeOf K (x, none) = c := He.codeOf_eq (p := (x, none)) lk rfl
  have hm : He.cT K (x, none) ∈ tf.map (He.cT K) := List.mem_map_of_mem (List.mem_of_getElem? hi)
  have hz : (tbs K)[i]? = some ((He.cT K (x, none)).2, q) := by
    unfold tbs
    rw [List.getElem?_zip_eq_some]
    exact ⟨by rw [List.getElem?_map, hi]; rfl, hq⟩
  refine ⟨c, (He.cT K (x, none)).2, rfl, ?_, List.mem_of_getElem? hz, fun p hp e => ?_⟩
  · have := TB _ hm
    rwa [show (He.cT K (x, none)).1 = c from e1] at this
  · obtain ⟨j, hj⟩ := List.mem_iff_getElem?.mp hp
    have nd : ((tbs K).map (·.1)).Nodup := by rw [tbs_fst]; exact hn
    have h1 : ((tbs K).map (·.1))[j]? = some p.1 := by rw [List.getElem?_map, hj]; rfl
    have h2 : ((tbs K).map (·.1))[i]? = some p.1 := by rw [List.getElem?_map, hz, e]; rfl
    have hji : j = i := by
      have hjl := (List.getElem?_eq_some_iff.mp h1).1
      exact (List.getElem?_inj hjl nd).mp (h1.trans h2.symm)
    rw [hji, hz] at hj
    exact (Option.some.inj hj).symm
theorem facts {P : Program} {w : World} {K : PySem.W.Frag} {h : Heap} {mg : Str → Option Value} {f : Addr} (X : K.In h) (G : h.Ns mainGlobals mg) (hfa : mg (PySem.Str.ofString "law") = some (.ref f)) (c : He.SaysX fa fn ts tf ex w h K) :
    ∃ fd : FuncData, (∀ (s : Shared) (v : Value), BindsTo s fd ⟨[v], []⟩ [((PySem.Str.ofString "_law_script"), v)]) ∧ ∀ base : Heap, K.In base → base.Ns mainGlobals mg → (∀ p ∈ tf.map (He.cT K), LamX.TabB base mg p.1 p.2) → FnOk P w K mg base (L2.CX P w) 6 f fd [(PySem.Str.ofString "_law_script")] (spOf ⟨P, w, K, ⟨atf K, tbs K, none⟩⟩ [false] m_law) := by
  obtain ⟨fd__law_taken, F__law_taken⟩ := c.t.d.def_ 0 (d := dd__law_taken) rfl
  have gl__law_taken : mg (PySem.Str.ofString "_law_taken") = some (.ref (He.ga K (PySem.Str.ofString "_law_taken"))) := He.glo_ok X G (c.t.d.fact 0 (f := .glo (PySem.Str.ofString "_law_taken")) rfl)
  have bd__law_taken : Binds K fd__law_taken [(PySem.Str.ofString "_law_row"), (PySem.Str.ofString "_law_many")] [] := FunD.bindsN F__law_taken fun _ _ _ _ _ _ us hl => match us, hl with | [_, _], _ => rfl
  obtain ⟨fd__law_floor, F__law_floor⟩ := c.t.d.def_ 1 (d := dd__law_floor) rfl
  have gl__law_floor : mg (PySem.Str.ofString "_law_floor") = some (.ref (He.ga K (PySem.Str.ofString "_law_floor"))) := He.glo_ok X G (c.t.d.fact 1 (f := .glo (PySem.Str.ofString "_law_floor")) rfl)
  have bd__law_floor : Binds K fd__law_floor [(PySem.Str.ofString "_law_row"), (PySem.Str.ofString "_law_size")] [] := FunD.bindsN F__law_floor fun _ _ _ _ _ _ us hl => match us, hl with | [_, _], _ => rfl
  obtain ⟨fd__law_sun, F__law_sun⟩ := c.t.d.def_ 2 (d := dd__law_sun) rfl
  have gl__law_sun : mg (PySem.Str.ofString "_law_sun") = some (.ref (He.ga K (PySem.Str.ofString "_law_sun"))) := He.glo_ok X G (c.t.d.fact 2 (f := .glo (PySem.Str.ofString "_law_sun")) rfl)
  have bd__law_sun : Binds K fd__law_sun [(PySem.Str.ofString "_law_row")] [] := FunD.bindsN F__law_sun fun _ _ _ _ _ _ us hl => match us, hl with | [_], _ => rfl
  obtain ⟨fd__law_turned, F__law_turned⟩ := c.t.d.def_ 3 (d := dd__law_turned) rfl
  have gl__law_turned : mg (PySem.Str.ofString "_law_turned") = some (.ref (He.ga K (PySem.Str.ofString "_law_turned"))) := He.glo_ok X G (c.t.d.fact 3 (f := .glo (PySem.Str.ofString "_law_turned")) rfl)
  have bd__law_turned : Binds K fd__law_turned [(PySem.Str.ofString "_law_floor_here"), (PySem.Str.ofString "_law_way")] [] := FunD.bindsN F__law_turned fun _ _ _ _ _ _ us hl => match us, hl with | [_, _], _ => rfl
  obtain ⟨fd_all_cells, F_all_cells⟩ := c.t.d.def_ 4 (d := dd_all_cells) rfl
  have gl_all_cells : mg (PySem.Str.ofString "all_cells") = some (.ref (He.ga K (PySem.Str.ofString "all_cells"))) := He.glo_ok X G (c.t.d.fact 4 (f := .glo (PySem.Str.ofString "all_cells")) rfl)
  have bd_all_cells : Binds K fd_all_cells [(PySem.Str.ofString "floor")] [] := FunD.bindsN F_all_cells fun _ _ _ _ _ _ us hl => match us, hl with | [_], _ => rfl
  obtain ⟨fd_is_number, F_is_number⟩ := c.t.d.def_ 5 (d := dd_is_number) rfl
  have gl_is_number : mg (PySem.Str.ofString "is_number") = some (.ref (He.ga K (PySem.Str.ofString "is_number"))) := He.glo_ok X G (c.t.d.fact 5 (f := .glo (PySem.Str.ofString "is_number")) rfl)
  have bd_is_number : Binds K fd_is_number [(PySem.Str.ofString "part"), (PySem.Str.ofString "low"), (PySem.Str.ofString "high")] [] := FunD.bindsN F_is_number fun _ _ _ _ _ _ us hl => match us, hl with | [_, _, _], _ => rfl
  obtain ⟨fd_is_cell, F_is_cell⟩ := c.t.d.def_ 6 (d := dd_is_cell) rfl
  have gl_is_cell : mg (PySem.Str.ofString "is_cell") = some (.ref (He.ga K (PySem.Str.ofString "is_cell"))) := He.glo_ok X G (c.t.d.fact 6 (f := .glo (PySem.Str.ofString "is_cell")) rfl)
  have bd_is_cell : Binds K fd_is_cell [(PySem.Str.ofString "part"), (PySem.Str.ofString "floor")] [] := FunD.bindsN F_is_cell fun _ _ _ _ _ _ us hl => match us, hl with | [_, _], _ => rfl
  obtain ⟨fd_is_post, F_is_post⟩ := c.t.d.def_ 7 (d := dd_is_post) rfl
  have gl_is_post : mg (PySem.Str.ofString "is_post") = some (.ref (He.ga K (PySem.Str.ofString "is_post"))) := He.glo_ok X G (c.t.d.fact 7 (f := .glo (PySem.Str.ofString "is_post")) rfl)
  have bd_is_post : Binds K fd_is_post [(PySem.Str.ofString "part"), (PySem.Str.ofString "floor")] [] := FunD.bindsN F_is_post fun _ _ _ _ _ _ us hl => match us, hl with | [_, _], _ => rfl
  obtain ⟨fd_need_floor, F_need_floor⟩ := c.t.d.def_ 8 (d := dd_need_floor) rfl
  have gl_need_floor : mg (PySem.Str.ofString "need_floor") = some (.ref (He.ga K (PySem.Str.ofString "need_floor"))) := He.glo_ok X G (c.t.d.fact 8 (f := .glo (PySem.Str.ofString "need_floor")) rfl)
  have bd_need_floor : Binds K fd_need_floor [(PySem.Str.ofString "floor")] [] := FunD.bindsN F_need_floor fun _ _ _ _ _ _ us hl => match us, hl with | [_], _ => rfl
  obtain ⟨fd_need_sun, F_need_sun⟩ := c.t.d.def_ 9 (d := dd_need_sun) rfl
  have gl_need_sun : mg (PySem.Str.ofString "need_sun") = some (.ref (He.ga K (PySem.Str.ofString "need_sun"))) := He.glo_ok X G (c.t.d.fact 9 (f := .glo (PySem.Str.ofString "need_sun")) rfl)
  have bd_need_sun : Binds K fd_need_sun [(PySem.Str.ofString "sun")] [] := FunD.bindsN F_need_sun fun _ _ _ _ _ _ us hl => match us, hl with | [_], _ => rfl
  obtain ⟨fd_shaded, F_shaded⟩ := c.t.d.def_ 10 (d := dd_shaded) rfl
  have gl_shaded : mg (PySem.Str.ofString "shaded") = some (.ref (He.ga K (PySem.Str.ofString "shaded"))) := He.glo_ok X G (c.t.d.fact 10 (f := .glo (PySem.Str.ofString "shaded")) rfl)
  have bd_shaded : Binds K fd_shaded [(PySem.Str.ofString "floor"), (PySem.Str.ofString "sign")] [] := FunD.bindsN F_shaded fun _ _ _ _ _ _ us hl => match us, hl with | [_, _], _ => rfl
  obtain ⟨fd_parted, F_parted⟩ := c.t.d.def_ 11 (d := dd_parted) rfl
  have gl_parted : mg (PySem.Str.ofString "parted") = some (.ref (He.ga K (PySem.Str.ofString "parted"))) := He.glo_ok X G (c.t.d.fact 11 (f := .glo (PySem.Str.ofString "parted")) rfl)
  have bd_parted : Binds K fd_parted [(PySem.Str.ofString "floor"), (PySem.Str.ofString "other"), (PySem.Str.ofString "sun")] [] := FunD.bindsN F_parted fun _ _ _ _ _ _ us hl => match us, hl with | [_, _, _], _ => rfl
  obtain ⟨fd_need_count, F_need_count⟩ := c.t.d.def_ 12 (d := dd_need_count) rfl
  have gl_need_count : mg (PySem.Str.ofString "need_count") = some (.ref (He.ga K (PySem.Str.ofString "need_count"))) := He.glo_ok X G (c.t.d.fact 12 (f := .glo (PySem.Str.ofString "need_count")) rfl)
  have bd_need_count : Binds K fd_need_count [(PySem.Str.ofString "number"), (PySem.Str.ofString "low"), (PySem.Str.ofString "high")] [] := FunD.bindsN F_need_count fun _ _ _ _ _ _ us hl => match us, hl with | [_, _, _], _ => rfl
  obtain ⟨fd_shade, F_shade⟩ := c.t.d.def_ 13 (d := dd_shade) rfl
  have gl_shade : mg (PySem.Str.ofString "shade") = some (.ref (He.ga K (PySem.Str.ofString "shade"))) := He.glo_ok X G (c.t.d.fact 13 (f := .glo (PySem.Str.ofString "shade")) rfl)
  have bd_shade : Binds K fd_shade [(PySem.Str.ofString "floor"), (PySem.Str.ofString "sun"), (PySem.Str.ofString "beat")] [] := FunD.bindsN F_shade fun _ _ _ _ _ _ us hl => match us, hl with | [_, _, _], _ => rfl
  obtain ⟨fd_law, F_law⟩ := c.t.d.def_ 14 (d := dd_law) rfl
  have gl_law : mg (PySem.Str.ofString "law") = some (.ref (He.ga K (PySem.Str.ofString "law"))) := He.glo_ok X G (c.t.d.fact 14 (f := .glo (PySem.Str.ofString "law")) rfl)
  have cm := c.more
  unfold ex at cm
  simp only [Bool.and_eq_true, decide_eq_true_eq] at cm
  obtain ⟨c_tab0, c_nd⟩ := cm
  obtain ⟨es0, n0, kd0⟩ := c.t.tab 0 rfl
  have hk0 : es0.toList.map keyS = [(PySem.Str.ofString "e"), (PySem.Str.ofString "n"), (PySem.Str.ofString "o"), (PySem.Str.ofString "s"), (PySem.Str.ofString "w")].map some := by
    have z := c_tab0
    unfold tabK at z
    split at z
    · rename_i q
      rw [kd0.at_] at q
      cases q
      rw [Bool.and_eq_true, Bool.and_eq_true] at z
      exact of_decide_eq_true z.2.1
    · cases z
  have hE : Env P w K mg ⟨atf K, tbs K, none⟩ := ⟨He.free_ok X G (c.t.d.fact 15 (f := .free (PySem.Str.ofString "set")) rfl),
      He.free_ok X G (c.t.d.fact 16 (f := .free (PySem.Str.ofString "dict")) rfl),
      He.free_ok X G (c.t.d.fact 17 (f := .free (PySem.Str.ofString "zip")) rfl),
      He.free_ok X G (c.t.d.fact 18 (f := .free (PySem.Str.ofString "int")) rfl),
      He.free_ok X G (c.t.d.fact 19 (f := .free (PySem.Str.ofString "bool")) rfl),
      He.free_ok X G (c.t.d.fact 20 (f := .free (PySem.Str.ofString "str")) rfl),
      He.free_ok X G (c.t.d.fact 21 (f := .free (PySem.Str.ofString "tuple")) rfl),
      He.free_ok X G (c.t.d.fact 22 (f := .free (PySem.Str.ofString "len")) rfl),
      He.free_ok X G (c.t.d.fact 23 (f := .free (PySem.Str.ofString "isinstance")) rfl),
      He.free_ok X G (c.t.d.fact 24 (f := .free (PySem.Str.ofString "sorted")) rfl),
      He.free_ok X G (c.t.d.fact 25 (f := .free (PySem.Str.ofString "min")) rfl),
      He.free_ok X G (c.t.d.fact 26 (f := .free (PySem.Str.ofString "range")) rfl),
      He.free_ok X G (c.t.d.fact 27 (f := .free (PySem.Str.ofString "enumerate")) rfl),
      He.int_ok X G (c.t.d.fact 28 (f := .int (PySem.Str.ofString "MOST_SIDE") 5) rfl),
      He.int_ok X G (c.t.d.fact 29 (f := .int (PySem.Str.ofString "MOST_POSTS") 4) rfl),
      He.int_ok X G (c.t.d.fact 30 (f := .int (PySem.Str.ofString "MOST_HIGH") 4) rfl),
      He.int_ok X G (c.t.d.fact 31 (f := .int (PySem.Str.ofString "MOST_AWNINGS") 8) rfl),
      He.int_ok X G (c.t.d.fact 32 (f := .int (PySem.Str.ofString "MOST_BEATS") 6) rfl),
      He.str_ok X G (c.t.d.fact 33 (f := .str (PySem.Str.ofString "OVERHEAD") (PySem.Str.ofString "o")) rfl),
      ⟨_, .ref (He.ga K (PySem.Str.ofString "STEPS")), He.glo_ok X G (c.t.d.fact 34 (f := .glo (PySem.Str.ofString "STEPS")) rfl), rfl, tabK_ok (g := ⟨P, w, K, ⟨atf K, tbs K, none⟩⟩) kd0 c_tab0⟩,
      ⟨_, _, _, He.glo_ok X G (c.t.d.fact 34 (f := .glo (PySem.Str.ofString "STEPS")) rfl), kd0, hk0⟩,
      rfl⟩
  have e := hfa.symm.trans gl_law
  cases e
  have b := FunD.bindsA (ps := [(PySem.Str.ofString "_law_script")]) F_law fun _ _ _ _ _ _ us hl => match us, hl with | [_], _ => rfl
  refine ⟨fd_law, fun s v => b s [v] rfl, fun base _ _ TB => ?_⟩
  have O__law_taken : Own P w K mg base ⟨atf K, tbs K, none⟩ 1 (PySem.Str.ofString "_law_taken") [(PySem.Str.ofString "_law_row"), (PySem.Str.ofString "_law_many")] [true, false] m__law_taken := ⟨_, fd__law_taken, gl__law_taken, F__law_taken.kp, bd__law_taken, ok__law_taken hE  F__law_taken⟩
  have O__law_floor : Own P w K mg base ⟨atf K, tbs K, none⟩ 2 (PySem.Str.ofString "_law_floor") [(PySem.Str.ofString "_law_row"), (PySem.Str.ofString "_law_size")] [true, false] m__law_floor := ⟨_, fd__law_floor, gl__law_floor, F__law_floor.kp, bd__law_floor, ok__law_floor hE O__law_taken F__law_floor⟩
  have O__law_sun : Own P w K mg base ⟨atf K, tbs K, none⟩ 2 (PySem.Str.ofString "_law_sun") [(PySem.Str.ofString "_law_row")] [true] m__law_sun := ⟨_, fd__law_sun, gl__law_sun, F__law_sun.kp, bd__law_sun, ok__law_sun hE O__law_taken F__law_sun⟩
  have O__law_turned : Own P w K mg base ⟨atf K, tbs K, none⟩ 1 (PySem.Str.ofString "_law_turned") [(PySem.Str.ofString "_law_floor_here"), (PySem.Str.ofString "_law_way")] [false, false] m__law_turned := ⟨_, fd__law_turned, gl__law_turned, F__law_turned.kp, bd__law_turned, ok__law_turned hE  F__law_turned⟩
  have O_all_cells : Own P w K mg base ⟨atf K, tbs K, none⟩ 1 (PySem.Str.ofString "all_cells") [(PySem.Str.ofString "floor")] [false] m_all_cells := ⟨_, fd_all_cells, gl_all_cells, F_all_cells.kp, bd_all_cells, ok_all_cells hE  F_all_cells⟩
  have O_is_number : Own P w K mg base ⟨atf K, tbs K, none⟩ 1 (PySem.Str.ofString "is_number") [(PySem.Str.ofString "part"), (PySem.Str.ofString "low"), (PySem.Str.ofString "high")] [false, false, false] m_is_number := ⟨_, fd_is_number, gl_is_number, F_is_number.kp, bd_is_number, ok_is_number hE  F_is_number⟩
  have O_is_cell : Own P w K mg base ⟨atf K, tbs K, none⟩ 2 (PySem.Str.ofString "is_cell") [(PySem.Str.ofString "part"), (PySem.Str.ofString "floor")] [false, false] m_is_cell := ⟨_, fd_is_cell, gl_is_cell, F_is_cell.kp, bd_is_cell, ok_is_cell hE O_is_number F_is_cell⟩
  have O_is_post : Own P w K mg base ⟨atf K, tbs K, none⟩ 3 (PySem.Str.ofString "is_post") [(PySem.Str.ofString "part"), (PySem.Str.ofString "floor")] [false, false] m_is_post := ⟨_, fd_is_post, gl_is_post, F_is_post.kp, bd_is_post, ok_is_post hE O_is_cell O_is_number F_is_post⟩
  have O_need_floor : Own P w K mg base ⟨atf K, tbs K, none⟩ 4 (PySem.Str.ofString "need_floor") [(PySem.Str.ofString "floor")] [false] m_need_floor := ⟨_, fd_need_floor, gl_need_floor, F_need_floor.kp, bd_need_floor, ok_need_floor hE O_is_cell O_is_number O_is_post F_need_floor⟩
  have O_need_sun : Own P w K mg base ⟨atf K, tbs K, none⟩ 1 (PySem.Str.ofString "need_sun") [(PySem.Str.ofString "sun")] [false] m_need_sun := ⟨_, fd_need_sun, gl_need_sun, F_need_sun.kp, bd_need_sun, ok_need_sun hE  F_need_sun⟩
  have O_shaded : Own P w K mg base ⟨atf K, tbs K, none⟩ 2 (PySem.Str.ofString "shaded") [(PySem.Str.ofString "floor"), (PySem.Str.ofString "sign")] [false, false] m_shaded := ⟨_, fd_shaded, gl_shaded, F_shaded.kp, bd_shaded, ok_shaded hE O_all_cells F_shaded⟩
  have O_parted : Own P w K mg base ⟨atf K, tbs K, none⟩ 5 (PySem.Str.ofString "parted") [(PySem.Str.ofString "floor"), (PySem.Str.ofString "other"), (PySem.Str.ofString "sun")] [false, false, false] m_parted := ⟨_, fd_parted, gl_parted, F_parted.kp, bd_parted, ok_parted hE O_all_cells O_need_floor O_need_sun O_shaded F_parted⟩
  have O_need_count : Own P w K mg base ⟨atf K, tbs K, none⟩ 2 (PySem.Str.ofString "need_count") [(PySem.Str.ofString "number"), (PySem.Str.ofString "low"), (PySem.Str.ofString "high")] [false, false, false] m_need_count := ⟨_, fd_need_count, gl_need_count, F_need_count.kp, bd_need_count, ok_need_count hE O_is_number F_need_count⟩
  have O_shade : Own P w K mg base ⟨atf K, tbs K, none⟩ 5 (PySem.Str.ofString "shade") [(PySem.Str.ofString "floor"), (PySem.Str.ofString "sun"), (PySem.Str.ofString "beat")] [false, false, false] m_shade := ⟨_, fd_shade, gl_shade, F_shade.kp, bd_shade, ok_shade hE O_need_count O_need_floor O_need_sun O_shaded F_shade⟩
  exact ok_law hE O__law_floor O__law_sun O__law_taken O__law_turned O_parted O_shade F_law
theorem told {P : Program} {w : World} {K : PySem.W.Frag} {at_ : Nat → Addr} (hm : ∀ ns : List Int, ns.length ≤ 63 → ∃ ρ, m_law [some (.val (.scr ns))] = some (.ok (.val (.bl true)), ρ)) (H : Hp) (a : Addr) (ns : List Int) (hl : ns.length ≤ 63) (hT : ∀ p ∈ tbs K, H p.1 = some (.tbl #[])) (hS : SqL K H a (ns.map V.int)) :
    spOf ⟨P, w, K, ⟨at_, tbs K, none⟩⟩ [false] m_law [.ref a] H (fun v _ => v = .bl true) (fun _ _ _ => False) := by
  classical
  have hF : Le (fun b => if b ∈ (tbs K).map (·.1) then none else H b) H := fun b o e => by
    by_cases q : b ∈ (tbs K).map (·.1)
    · simp only [q, if_true] at e; cases e
    · simp only [q, if_false] at e; exact e
  have isT : ∀ b, b ∈ (tbs K).map (·.1) → H b = some (.tbl #[]) := fun b hb => by
    obtain ⟨p, hp, rfl⟩ := List.mem_map.mp hb
    exact hT p hp
  have hS2 : SqL K (fun b => if b ∈ (tbs K).map (·.1) then none else H b) a (ns.map V.int) := by
    rcases hS with h | h
    · refine .inl ?_
      rcases h with h | ⟨o, h⟩
      · refine .inl ?_
        show (if a ∈ (tbs K).map (·.1) then none else H a) = _
        rw [if_neg (fun q => by rw [isT a q] at h; cases h)]; exact h
      · refine .inr ⟨o, ?_⟩
        show (if a ∈ (tbs K).map (·.1) then none else H a) = _
        rw [if_neg (fun q => by rw [isT a q] at h; cases h)]; exact h
    · exact .inr h
  have ro : RepO ⟨P, w, K, ⟨at_, tbs K, none⟩⟩ H (fun b => if b ∈ (tbs K).map (·.1) then none else H b) (O.val (.scr ns)) (V.ref a) (fun _ => False) := by
    rw [RepO, RepV]; exact ⟨a, rfl, hS2⟩
  have rl : RepL ⟨P, w, K, ⟨at_, tbs K, none⟩⟩ H (fun b => if b ∈ (tbs K).map (·.1) then none else H b) [(V.ref a, O.val (.scr ns))] (fun _ => False) := by
    rw [RepL]
    exact ⟨fun _ => False, fun _ => False, ⟨fun _ h => h, fun _ h => h, fun _ h _ => h⟩, ro, by rw [RepL]; trivial⟩
  have gd : Good ⟨P, w, K, ⟨at_, tbs K, none⟩⟩ H (fun b => if b ∈ (tbs K).map (·.1) then none else H b) (fun _ => none) [(V.ref a, O.val (.scr ns))] :=
    ⟨fun _ => False, fun p hp => ⟨if_pos (List.mem_map_of_mem hp), rfl, fun h => h, #[], hT p hp, trivial, fun pos cv hc => by simp [codeAmong] at hc⟩, hF, (fun _ _ h => by cases h), (fun _ _ h => by cases h), fun _ h => h.elim, rl⟩
  refine ⟨rfl, _, fun _ => none, [some (.val (.scr ns))], ⟨fun i o e => ?_, rfl, gd⟩, ?_⟩
  · cases i with
    | zero => exact ⟨.ref a, rfl⟩
    | succ i => simp at e
  · obtain ⟨ρ, e⟩ := hm ns hl
    rw [e]
    intro v H' F' le st
    have r := st.gd.val (B := slL _ _)
    rw [RepV] at r
    exact r
end G
open PySem PySem.W PySem.Calls PyProof.Rows
theorem PySem.Challenge.cw_shadeseats_k18_whole_shades_of_parts_holds : PySem.Challenge.rw_shadeseats_k18_whole_shades_of_parts.Holds := by
  w_on; o_law
  refine HandSHeadRun.head_any (r := OpenLaw.row PySem.Challenge.rw_shadeseats_k18_whole_shades_of_parts) (q := view (OpenLaw.row PySem.Challenge.rw_shadeseats_k18_whole_shades_of_parts).prog [28]) (H := G.hk) (ob := G.ob) (M := 20000) (loose := G.loose) (d := HandSHeadRun.topDef (OpenLaw.row PySem.Challenge.rw_shadeseats_k18_whole_shades_of_parts).prog 28) (kwd := []) G.ob_eq
    (by kernel_rfl) (fun s => by kernel_rfl) G.run (by kernel_rfl) (by kernel_rfl) (by kernel_rfl) (by rfl) (by first | assumption | decide +kernel) (by decide +kernel) ⟨rfl, rfl, rfl, rfl, rfl, by decide +kernel⟩ ?hw ?hc
  case hw => w_witness2
  case hc =>
    refine LamX.walk_ofTsE (l := PySem.Challenge.rw_shadeseats_k18_whole_shades_of_parts) (n := 63) (k := 6) (x := PySem.Str.ofString "_law_script") (CX := fun w => L2.CX (PySem.Challenge.rw_shadeseats_k18_whole_shades_of_parts).prog w) rfl (by decide) (by kernel_rfl) ⟨rfl, by decide, by decide⟩ ?F (fun w H s e s' ⟨_, _, _, _, _, _, _, _, _, _, _, _, z⟩ => z)
    intro w mg fa h Y Gn hmg0
    obtain ⟨K, KX, c⟩ := Y
    have hmg : mg ("law" : PySem.Str) = some (.ref fa) := by
      have e : (HandSHeadRun.topDef (OpenLaw.row PySem.Challenge.rw_shadeseats_k18_whole_shades_of_parts).prog 28).name = ("law" : PySem.Str) := by kernel_rfl
      rw [← e]
      exact hmg0
    obtain ⟨fd, hb, hF⟩ := G.facts (P := (PySem.Challenge.rw_shadeseats_k18_whole_shades_of_parts).prog) (w := w)  KX Gn hmg c
    refine ⟨K, KX, fd, G.tf.map (He.cT K), PF.spOf ⟨(PySem.Challenge.rw_shadeseats_k18_whole_shades_of_parts).prog, w, K, ⟨G.atf K, G.tbs K, none⟩⟩ [false] G.m_law, fun p hp => ?_, fun p hp => ?_, fun p hp => ?_, hb, fun H a ns hl _ hT hS => G.told G.law_true H a ns hl (fun p hp => ?_) hS, hF⟩
    · obtain ⟨q, hq, rfl⟩ := List.mem_map.mp hp
      exact c.empty q hq
    · obtain ⟨q, hq, rfl⟩ := List.mem_map.mp hp
      exact c.out q hq
    · obtain ⟨q, hq, rfl⟩ := List.mem_map.mp hp
      exact PySem.W.codeHd_of_K KX (c.hd q hq)
    · have hm : p.1 ∈ (G.tbs K).map (·.1) := List.mem_map_of_mem hp
      rw [G.tbs_fst] at hm
      obtain ⟨q, hq, e⟩ := List.mem_map.mp hm
      rw [← e]
      exact hT _ (List.mem_map_of_mem hq)

