import PyProof.Rows.All
import Wide.All
import OpenK.AllK
import Wide.FinOn
import HandS.ForMost
import HandS.Codes
import HandS.Style
import KE.KDictKeyed
import KE.KeyNested
import HandS.SetKeys
import HandS.More
import HandS.Iter
import HandS.Lambda
import HandS.Nested
import HandS.TupMul
import PyProof.Rows.TupTab
import HandS.TupLen
import KE.GoesNew
import HandS.Strs
import HandS.IsInst
import HandS.StrMore
import HandS.Conv
import PyProof.ListStr
import PyProof.StrOps2
import PyProof.Rows.SortShellAny
import PyProof.CollectStr
import PyProof.SetRoads
import HandS.Dict
import KE.KDictZip
import KE.GoesZip
import KE.KDictItemsList
import HandS.Flow
import HandS.NoneIn
import HandS.EndTab
import KE.KNestM
import PySem.Challenge.RW_likehands_k06_whole_sets_by_words_alone
set_option Elab.async false
set_option linter.all false
set_option maxRecDepth 100000
set_option maxHeartbeats 4000000
/-! D1: plain data, what denotes it in a heap, the fit between a data frame and a heap. -/
namespace Dl
open PySem PySem.Spec PyProof.Rows L2

/-- plain data: what a value is, without addresses -/
inductive Dat where
  | non | bl (b : Bool) | int (i : Int) | str (x : Str)
  | tup (ds : List Dat) | lst (ds : List Dat) | dct (ks vs : List Dat)
  | fn (c : Nat) (ds : List Dat)

/-- what is known of functions that are handed about (ck), the names of code objects by their places (nm), the tables of code objects (tb) -/
structure CK where
  ck : Hp → V → Nat → List Dat → Prop
  mono : ∀ {F F' : Hp} {v : V} {c : Nat} {env : List Dat}, (∀ b o, F b = some o → F' b = some o) → ck F v c env → ck F' v c env
  isref : ∀ {F : Hp} {v : V} {c : Nat} {env : List Dat}, ck F v c env → ∃ f, v = .ref f
  nm : Nat → Nat → Str
  tbs : List Addr
def CK.tb (G : CK) (P : Addr) : Bool := decide (P ∈ G.tbs)
/-- what is laid for good, the world (texts' hashes), what is known of functions -/
structure Kw where
  K : PySem.W.Frag
  w : World
  G : CK
instance : Coe Kw PySem.W.Frag := ⟨Kw.K⟩
abbrev _root_.L2.Cx.kw (X : L2.Cx) (G : CK) : Kw := ⟨X.K, X.w, G⟩

/-- a key: an int or a text -/
def flatK : Dat → Bool
  | .int _ => true
  | .str _ => true
  | _ => false
def toK : Dat → Key
  | .int i => .inl i
  | .str x => .inr x
  | _ => .inl 0
mutual
/-- a datum as a nested key -/
def nkey : Dat → NestedKey
  | .non => .none
  | .bl b => .num (if b = true then 1 else 0)
  | .int i => .num i
  | .str x => .text x
  | .tup ds => .tup (nkeys ds)
  | .lst _ => .none
  | .dct _ _ => .none
  | .fn _ _ => .none
def nkeys : List Dat → List NestedKey
  | [] => []
  | d :: ds => nkey d :: nkeys ds
end
mutual
/-- may it be (a part of) a nested key: to the depth n -/
def nokey : Nat → Dat → Bool
  | _, .non => true
  | _, .bl _ => true
  | _, .int _ => true
  | _, .str _ => true
  | n + 1, .tup ds => nokeys n ds
  | _, _ => false
def nokeys : Nat → List Dat → Bool
  | _, [] => true
  | n, d :: ds => nokey n d && nokeys n ds
end
/-- a tuple that may be a key -/
def tupK : Dat → Bool
  | .tup ds => nokeys 7 ds
  | _ => false
/-- a dict with tuples for keys -/
def DN (w : World) (a : Addr) (ps : List (NestedKey × Addr × V)) : HO := .ext fun h => ps.length ≤ sizeLine ∧ (a == sysModules) = false ∧ ∃ xs : List (NestedKey × Addr × Value),
  Paired (fun (p : NestedKey × Addr × V) (q : NestedKey × Addr × Value) => p.1 = q.1 ∧ p.2.1 = q.2.1 ∧ RelV p.2.2 q.2.2) ps xs ∧
  ∃ o es ep, h.get? a = some o ∧ o.ExactDict ∧ o.data = .dict es ep ∧ es.toList = xs.map (fun x => (⟨x.1.hash w, .ref x.2.1, x.2.2⟩ : DictEntry)) ∧ (xs.map (·.1)).Nodup
/-- the object u at a is a dict of the keys ks: their values ws, the entries' values zs -/
def DOk (K : Kw) (a : Addr) (u : HO) (ks : List Dat) (ws zs : List V) : Prop := ws.length ≤ sizeLine ∧
  ((∃ ps : List (Key × V), u = .dK ps ∧ ws = ps.map (fun p => kV p.1) ∧ zs = ps.map (·.2)) ∨
   (∃ ps : List (NestedKey × Addr × V), u = DN K.w a ps ∧ ws = ps.map (fun p => V.ref p.2.1) ∧ zs = ps.map (·.2.2) ∧ nkeys ks = ps.map (·.1) ∧ ks.all tupK = true ∧ ps ≠ []))

mutual
/-- the value v stands for the datum in the heap H -/
def Den (K : Kw) (H : Hp) : Dat → V → Prop
  | .non, v => v = .non
  | .bl b, v => v = .bl b
  | .int i, v => v = .int i
  | .str x, v => v = .str x ∧ x.length ≤ sizeLine
  | .tup ds, v => ∃ a xs, v = .ref a ∧ SqT K H a xs ∧ xs.length ≤ sizeLine ∧ DenL K H ds xs
  | .lst ds, v => ∃ a xs, v = .ref a ∧ SqL K H a xs ∧ xs.length ≤ sizeLine ∧ DenL K H ds xs
  | .dct ks vs, v => ∃ a u ws zs, v = .ref a ∧ H a = some u ∧ DOk K a u ks ws zs ∧ DenL K H ks ws ∧ DenL K H vs zs
  | .fn c env, v => K.G.ck H v c env
def DenL (K : Kw) (H : Hp) : List Dat → List V → Prop
  | [], xs => xs = []
  | d :: ds, xs => ∃ v vs, xs = v :: vs ∧ Den K H d v ∧ DenL K H ds vs
end

theorem Same.rd {H H' : Hp} {a : Addr} {u : HO} (e : Same H H') (h : Rd H a u) : Rd H' a u := by
  rcases h with h | ⟨o, h⟩
  · exact .inl (e _ _ h)
  · exact .inr ⟨o, e _ _ h⟩
theorem Same.seqT {K : Kw} {H H' : Hp} {a : Addr} {xs : List V} (e : Same H H') (h : SqT K H a xs) : SqT K H' a xs := by
  rcases h with (h | ⟨o, h⟩) | h
  · exact .inl (.inl (e _ _ h))
  · exact .inl (.inr ⟨o, e _ _ h⟩)
  · exact .inr h

mutual
theorem Den.mono {K : Kw} {H H' : Hp} (s : Same H H') : ∀ (d : Dat) {v : V}, Den K H d v → Den K H' d v
  | .non, _, h => h
  | .bl _, _, h => h
  | .int _, _, h => h
  | .str _, _, h => h
  | .tup ds, _, ⟨a, xs, e, q, l, r⟩ => ⟨a, xs, e, Same.seqT s q, l, DenL.mono s ds r⟩
  | .lst ds, _, ⟨a, xs, e, q, l, r⟩ => ⟨a, xs, e, s.seq q, l, DenL.mono s ds r⟩
  | .dct ks vs, _, ⟨a, u, ws, zs, e, q, l, r1, r2⟩ => ⟨a, u, ws, zs, e, s _ _ q, l, DenL.mono s ks r1, DenL.mono s vs r2⟩
  | .fn _ _, _, h => K.G.mono s h
theorem DenL.mono {K : Kw} {H H' : Hp} (s : Same H H') : ∀ (ds : List Dat) {xs : List V}, DenL K H ds xs → DenL K H' ds xs
  | [], _, h => h
  | d :: ds, _, ⟨v, vs, e, h, r⟩ => ⟨v, vs, e, Den.mono s d h, DenL.mono s ds r⟩
end

section
variable {K : Kw} {H : Hp}
theorem DenL.length : ∀ {ds : List Dat} {xs : List V}, DenL K H ds xs → ds.length = xs.length
  | [], _, h => by cases h; rfl
  | d :: ds, _, ⟨v, vs, e, h, r⟩ => by
    cases e
    rw [List.length_cons, List.length_cons, DenL.length r]
theorem DenL.get : ∀ {ds : List Dat} {xs : List V} {i : Nat} {x : V}, DenL K H ds xs → xs[i]? = some x → ∃ d, ds[i]? = some d ∧ Den K H d x
  | [], _, i, x, h, e => by cases h; simp at e
  | d :: ds, _, 0, x, ⟨v, vs, e, h, r⟩, g => by
    cases e
    cases g
    exact ⟨d, rfl, h⟩
  | d :: ds, _, i + 1, x, ⟨v, vs, e, h, r⟩, g => by
    cases e
    exact DenL.get (i := i) r g
theorem DenL.getD : ∀ {ds : List Dat} {xs : List V} {i : Nat} {d : Dat}, DenL K H ds xs → ds[i]? = some d → ∃ x, xs[i]? = some x ∧ Den K H d x
  | [], _, i, x, h, e => by simp at e
  | d :: ds, _, 0, x, ⟨v, vs, e, h, r⟩, g => by
    cases e
    cases g
    exact ⟨v, rfl, h⟩
  | d :: ds, _, i + 1, x, ⟨v, vs, e, h, r⟩, g => by
    cases e
    exact DenL.getD (i := i) r g
theorem DenL.app : ∀ {ds es : List Dat} {xs ys : List V}, DenL K H ds xs → DenL K H es ys → DenL K H (ds ++ es) (xs ++ ys)
  | [], _, _, _, h, g => by cases h; exact g
  | d :: ds, _, _, _, ⟨v, vs, e, h, r⟩, g => by
    cases e
    exact ⟨v, _, rfl, h, DenL.app r g⟩
theorem DenL.one {d : Dat} {x : V} (h : Den K H d x) : DenL K H [d] [x] := ⟨x, [], rfl, h, rfl⟩
theorem DenL.nil : DenL K H [] [] := rfl
theorem DenL.cons {d : Dat} {x : V} {ds : List Dat} {xs : List V} (h : Den K H d x) (r : DenL K H ds xs) : DenL K H (d :: ds) (x :: xs) := ⟨x, xs, rfl, h, r⟩
theorem DenL.take : ∀ {ds : List Dat} {xs : List V} (n : Nat), DenL K H ds xs → DenL K H (ds.take n) (xs.take n)
  | _, _, 0, _ => rfl
  | [], _, n + 1, h => by cases h; rfl
  | d :: ds, _, n + 1, ⟨v, vs, e, h, r⟩ => by
    cases e
    exact ⟨v, _, rfl, h, DenL.take n r⟩
theorem DenL.drop : ∀ {ds : List Dat} {xs : List V} (n : Nat), DenL K H ds xs → DenL K H (ds.drop n) (xs.drop n)
  | _, _, 0, h => h
  | [], _, n + 1, h => by cases h; rfl
  | d :: ds, _, n + 1, ⟨v, vs, e, h, r⟩ => by
    cases e
    exact DenL.drop n r
theorem DenL.set {d : Dat} {x : V} (q : Den K H d x) : ∀ {ds : List Dat} {xs : List V} (n : Nat), DenL K H ds xs → DenL K H (ds.set n d) (xs.set n x)
  | [], _, n, h => by cases h; rfl
  | _ :: ds, _, 0, ⟨v, vs, e, h, r⟩ => by
    cases e
    exact ⟨x, _, rfl, q, r⟩
  | _ :: ds, _, n + 1, ⟨v, vs, e, h, r⟩ => by
    cases e
    exact ⟨v, _, rfl, h, DenL.set q n r⟩
theorem DenL.erase : ∀ {ds : List Dat} {xs : List V} (n : Nat), DenL K H ds xs → DenL K H (ds.eraseIdx n) (xs.eraseIdx n)
  | [], _, n, h => by cases h; rfl
  | _ :: ds, _, 0, ⟨v, vs, e, h, r⟩ => by
    cases e
    exact r
  | _ :: ds, _, n + 1, ⟨v, vs, e, h, r⟩ => by
    cases e
    exact ⟨v, _, rfl, h, DenL.erase n r⟩
theorem DenL.rev : ∀ {ds : List Dat} {xs : List V}, DenL K H ds xs → DenL K H ds.reverse xs.reverse
  | [], _, h => by cases h; rfl
  | d :: ds, _, ⟨v, vs, e, h, r⟩ => by
    cases e
    rw [List.reverse_cons, List.reverse_cons]
    exact DenL.app (DenL.rev r) (DenL.one h)
theorem DenL.empty {ds : List Dat} {xs : List V} (h : DenL K H ds xs) : (!xs.isEmpty) = !ds.isEmpty := by
  cases ds with
  | nil => cases h; rfl
  | cons d ds =>
    obtain ⟨v, vs, e, _, _⟩ := h
    cases e
    rfl
theorem DenL.ints : ∀ {ns : List Int} {xs : List V}, DenL K H (ns.map Dat.int) xs → xs = ns.map V.int
  | [], _, h => h
  | n :: ns, _, ⟨v, vs, e, h, r⟩ => by
    rw [e, show v = V.int n from h, DenL.ints r]
    rfl
theorem DenL.of_ints : ∀ (ns : List Int), DenL K H (ns.map Dat.int) (ns.map V.int)
  | [] => rfl
  | n :: ns => ⟨_, _, rfl, rfl, DenL.of_ints ns⟩
theorem DenL.strs : ∀ {ns : List Str} {xs : List V}, DenL K H (ns.map Dat.str) xs → xs = ns.map V.str ∧ ∀ n ∈ ns, n.length ≤ sizeLine
  | [], _, h => ⟨h, fun _ q => nomatch q⟩
  | n :: ns, _, ⟨v, vs, e, h, r⟩ => by
    obtain ⟨e1, h1⟩ := DenL.strs r
    rw [e, h.1, e1]
    refine ⟨rfl, fun m hm => ?_⟩
    rcases List.mem_cons.mp hm with rfl | hm
    · exact h.2
    · exact h1 m hm
theorem DenL.of_strs : ∀ (ns : List Str), (∀ n ∈ ns, n.length ≤ sizeLine) → DenL K H (ns.map Dat.str) (ns.map V.str)
  | [], _ => rfl
  | n :: ns, h => ⟨_, _, rfl, ⟨rfl, h n List.mem_cons_self⟩, DenL.of_strs ns fun m hm => h m (List.mem_cons_of_mem _ hm)⟩
theorem DenL.bls : ∀ {ns : List Bool} {xs : List V}, DenL K H (ns.map Dat.bl) xs → xs = ns.map V.bl
  | [], _, h => h
  | n :: ns, _, ⟨v, vs, e, h, r⟩ => by
    rw [e, show v = V.bl n from h, DenL.bls r]
    rfl
end

/-- the tables of code objects: what they tell is settled -/
def TabsK (K : Kw) (F H : Hp) : Prop := ∀ P, K.G.tb P = true → F P = none ∧ ∃ ps : Array Value, H P = some (.tbl ps) ∧ TriplesOk ps.toList ∧ ∀ (pos : Pos) (cv : Value), codeAmong pos ps.toList = some cv → ∃ c, cv = .ref c ∧ F c = some (LamX.CodeO c (K.G.nm pos.line pos.col))
/-- a heap without the tables -/
def noT (K : Kw) (H : Hp) : Hp := fun b => if K.G.tb b = true then none else H b
theorem noT_some {K : Kw} {H : Hp} {b : Addr} {o : HO} (h : noT K H b = some o) : K.G.tb b = false ∧ H b = some o := by
  unfold noT at h
  split at h
  · cases h
  · rename_i n
    exact ⟨by simpa using n, h⟩
theorem noT_tb {K : Kw} {H : Hp} {b : Addr} (h : K.G.tb b = true) : noT K H b = none := if_pos h
theorem noT_eq {K : Kw} {H : Hp} {b : Addr} (h : K.G.tb b = false) : noT K H b = H b := if_neg (by rw [h]; decide)
theorem TabsK.ne {K : Kw} {F H : Hp} (t : TabsK K F H) {P a : Addr} {u : HO} (h : K.G.tb P = true) (e : H a = some u) (nt : ∀ ps, u ≠ .tbl ps) : P ≠ a := fun z => by
  obtain ⟨_, ps, q, _⟩ := t P h
  rw [z, e] at q
  exact nt ps (Option.some.inj q)
theorem TabsK.off {K : Kw} {F H : Hp} (t : TabsK K F H) {a : Addr} {u : HO} (e : H a = some u) (nt : ∀ ps, u ≠ .tbl ps) : K.G.tb a = false := by
  cases h : K.G.tb a with
  | false => rfl
  | true => exact absurd rfl (t.ne h e nt)
theorem TabsK.grow {K : Kw} {F H F' H' : Hp} (t : TabsK K F H) (ff : Same F F') (hh : ∀ P ps, K.G.tb P = true → H P = some (.tbl ps) → H' P = some (.tbl ps)) (hn : ∀ b o, F' b = some o → F b = some o ∨ H b = none) : TabsK K F' H' := fun P h => by
  obtain ⟨f, ps, e, tr, q⟩ := t P h
  refine ⟨?_, ps, hh P ps h e, tr, fun pos cv hc => ?_⟩
  · cases z : F' P with
    | none => rfl
    | some o =>
      rcases hn P o z with y | y
      · rw [f] at y; cases y
      · rw [e] at y; cases y
  · obtain ⟨c, e1, e2⟩ := q pos cv hc
    exact ⟨c, e1, ff _ _ e2⟩

/-- how a slot holds its datum: settled for ever; its own list, that may change; its caller's list, that may change -/
inductive Mu where
  | fz | own | io
  deriving DecidableEq
/-- a slot -/
structure Sl where
  d : Dat
  m : Mu
abbrev Rho := List (Option Sl)
/-- what an expression gives: a datum, a new list of one's own, or what stands in a slot -/
inductive Out where
  | val (d : Dat) | fresh (d : Dat) | place (i : Nat)

def look (r : Rho) (i : Nat) : Option Sl := (r[i]?).join
theorem look_some {r : Rho} {i : Nat} {s : Sl} (h : look r i = some s) : r[i]? = some (some s) := by
  unfold look at h
  cases e : r[i]? with
  | none => rw [e] at h; cases h
  | some o =>
    rw [e] at h
    cases o with
    | none => cases h
    | some t => cases h; rfl
theorem look_of {r : Rho} {i : Nat} {s : Sl} (h : r[i]? = some (some s)) : look r i = some s := by
  unfold look
  rw [h]
  rfl

/-- the list or dict at a, one's own: its items stand in F -/
def Own (K : Kw) (F H : Hp) (a : Addr) : Dat → Prop
  | .lst ds => ∃ xs, H a = some (.lst xs) ∧ xs.length ≤ sizeLine ∧ DenL K F ds xs
  | .dct ks vs => ∃ u ws zs, H a = some u ∧ DOk K a u ks ws zs ∧ DenL K F ks ws ∧ DenL K F vs zs
  | _ => False

/-- a call of a def: the heap at its entry (H0), what of it is settled (F0), the addresses that it may change, slots that stay -/
structure Fr where
  K : Kw
  H0 : Hp
  F0 : Hp
  io : Addr → Prop
  pro : List (Nat × V)

/-- the addresses that the slots own -/
def Mine (r : Rho) (σ : L2.St) (a : Addr) : Prop := ∃ (i : Nat) (s : Sl), r[i]? = some (some s) ∧ s.m ≠ .fz ∧ σ[i]? = some (some (.ref a))

def SlotOk (A : Fr) (F H : Hp) (s : Sl) (v : V) : Prop :=
  match s.m with
  | .fz => Den A.K F s.d v
  | .own => ∃ a, v = .ref a ∧ F a = none ∧ A.H0 a = none ∧ ¬ A.io a ∧ Own A.K F H a s.d
  | .io => ∃ a, v = .ref a ∧ F a = none ∧ A.io a ∧ Own A.K F H a s.d

structure Fit (A : Fr) (r : Rho) (F : Hp) (σ : L2.St) (H : Hp) : Prop where
  sub : Same F H
  keep : ∀ b o, A.H0 b = some o → ¬ A.io b → H b = some o
  newf : ∀ b o, F b = some o → A.F0 b = some o ∨ A.H0 b = none
  f0 : Same A.F0 F
  ioh : ∀ b, A.io b → ∃ o, H b = some o
  slot : ∀ (i : Nat) (s : Sl), r[i]? = some (some s) → ∃ v, σ[i]? = some (some v) ∧ SlotOk A F H s v
  sep : ∀ (i j : Nat) (s t : Sl) (a : Addr), i ≠ j → r[i]? = some (some s) → s.m ≠ .fz → r[j]? = some (some t) → t.m ≠ .fz → σ[i]? = some (some (.ref a)) → σ[j]? ≠ some (some (.ref a))
  pro : ∀ p ∈ A.pro, σ[p.1]? = some (some p.2)
  len : r.length = σ.length
  tab : TabsK A.K F H
  tbo : ∀ P, A.K.G.tb P = true → A.H0 P = none ∧ ¬ A.io P

/-- the datum as it is seen: a list's items stand in F, itself in H -/
def Seen (K : Kw) (F H : Hp) : Dat → V → Prop
  | .lst ds, v => ∃ a xs, v = .ref a ∧ SqL K H a xs ∧ xs.length ≤ sizeLine ∧ DenL K F ds xs
  | .dct ks vs, v => ∃ a u ws zs, v = .ref a ∧ H a = some u ∧ DOk K a u ks ws zs ∧ DenL K F ks ws ∧ DenL K F vs zs
  | d, v => Den K F d v
theorem Seen.of {K : Kw} {F H : Hp} (s : Same F H) {d : Dat} {v : V} (h : Den K F d v) : Seen K F H d v := by
  cases d with
  | lst ds =>
    obtain ⟨a, xs, e, q, l, r⟩ := h
    exact ⟨a, xs, e, s.seq q, l, r⟩
  | dct ks vs =>
    obtain ⟨a, u, ws, zs, e, q, l, r1, r2⟩ := h
    exact ⟨a, u, ws, zs, e, s _ _ q, l, r1, r2⟩
  | _ => exact h
theorem Seen.own {K : Kw} {F H : Hp} {a : Addr} {d : Dat} (h : Own K F H a d) : Seen K F H d (.ref a) := by
  cases d with
  | lst ds =>
    obtain ⟨xs, e, l, r⟩ := h
    exact ⟨a, xs, rfl, SqL.of e, l, r⟩
  | dct ks vs =>
    obtain ⟨u, ws, zs, e, l, r1, r2⟩ := h
    exact ⟨a, u, ws, zs, rfl, e, l, r1, r2⟩
  | _ => exact h.elim
theorem Fit.seen {A : Fr} {r : Rho} {F : Hp} {σ : L2.St} {H : Hp} (h : Fit A r F σ H) {i : Nat} {s : Sl} {v : V} (e : r[i]? = some (some s)) (ev : σ[i]? = some (some v)) : Seen A.K F H s.d v := by
  obtain ⟨u, e2, q⟩ := h.slot i s e
  rw [ev] at e2
  cases e2
  unfold SlotOk at q
  split at q
  · exact Seen.of h.sub q
  · obtain ⟨a, rfl, _, _, _, o⟩ := q
    exact Seen.own o
  · obtain ⟨a, rfl, _, _, o⟩ := q
    exact Seen.own o

/-- what an expression has given -/
def OutOk (A : Fr) (r : Rho) (F : Hp) (σ : L2.St) (H : Hp) : Out → V → Prop
  | .val d, v => Den A.K F d v
  | .fresh d, v => ∃ a, v = .ref a ∧ F a = none ∧ A.H0 a = none ∧ ¬ A.io a ∧ Own A.K F H a d ∧ ¬ Mine r σ a
  | .place i, v => σ[i]? = some (some v)

/-- what an operation has made of a heap -/
structure New (K : Kw) (F H F' H' : Hp) : Prop where
  ff : Same F F'
  fh : Same F' H'
  hh : ∀ b o, H b = some o → K.G.tb b = false → H' b = some o
  nw : ∀ b o, F' b = some o → F b = some o ∨ H b = none
  tb : TabsK K F H → TabsK K F' H'
theorem New.of {K : Kw} {F H F' H' : Hp} (ff : Same F F') (fh : Same F' H') (hh : Same H H') (nw : ∀ b o, F' b = some o → F b = some o ∨ H b = none) : New K F H F' H' :=
  ⟨ff, fh, fun b o e _ => hh b o e, nw, fun t => t.grow ff (fun P ps _ e => hh _ _ e) nw⟩
def NewOk (K : Kw) (F H : Hp) (v : V) (H' : Hp) : Out → Prop
  | .val d => ∃ F', New K F H F' H' ∧ Den K F' d v
  | .fresh d => ∃ F' a, New K F H F' H' ∧ v = .ref a ∧ H a = none ∧ F' a = none ∧ Own K F' H' a d
  | .place _ => False

section
variable {K : Kw} {F H : Hp}
theorem New.refl (s : Same F H) : New K F H F H := New.of (Same.refl F) s (Same.refl H) fun _ _ h => .inl h
theorem same_upd {H : Hp} {p : Addr} {o : HO} (h : H p = none) : Same H (upd H p o) := fun b x e => by
  rw [upd_ne (ne_of_none e h)]
  exact e
theorem NewOk.same (s : Same F H) {d : Dat} {v : V} (h : Den K F d v) : NewOk K F H v H (.val d) := ⟨F, New.refl s, h⟩
/-- a new tuple -/
theorem NewOk.tup (s : Same F H) {p : Addr} (hp : H p = none) {xs : List V} {ds : List Dat} (l : xs.length ≤ sizeLine) (h : DenL K F ds xs) : NewOk K F H (.ref p) (upd H p (.tup xs)) (.val (.tup ds)) := by
  have fp : F p = none := s.free hp
  refine ⟨upd F p (.tup xs), New.of (same_upd fp) (fun b o e => ?_) (same_upd hp) (fun b o e => ?_), p, xs, rfl, SqT.of upd_same, l, DenL.mono (same_upd fp) ds h⟩
  · by_cases hb : b = p
    · subst hb
      rw [upd_same] at e ⊢
      exact e
    · rw [upd_ne hb] at e ⊢
      exact s b o e
  · by_cases hb : b = p
    · subst hb
      exact .inr hp
    · rw [upd_ne hb] at e
      exact .inl e
/-- .. without a word on tables -/
structure New0 (F H F' H' : Hp) : Prop where
  ff : Same F F'
  fh : Same F' H'
  hh : Same H H'
  nw : ∀ b o, F' b = some o → F b = some o ∨ H b = none
theorem New0.refl (s : Same F H) : New0 F H F H := ⟨Same.refl F, s, Same.refl H, fun _ _ h => .inl h⟩
theorem tup0 (s : Same F H) {p : Addr} (hp : H p = none) {xs : List V} {ds : List Dat} (l : xs.length ≤ sizeLine) (h : DenL K F ds xs) : ∃ F', New0 F H F' (upd H p (.tup xs)) ∧ Den K F' (.tup ds) (.ref p) := by
  obtain ⟨F', n, d⟩ := NewOk.tup s hp l h
  exact ⟨F', ⟨n.ff, n.fh, same_upd hp, n.nw⟩, d⟩
/-- a new list -/
theorem NewOk.lst (s : Same F H) {p : Addr} (hp : H p = none) {xs : List V} {ds : List Dat} (l : xs.length ≤ sizeLine) (h : DenL K F ds xs) : NewOk K F H (.ref p) (upd H p (.lst xs)) (.fresh (.lst ds)) :=
  ⟨F, p, New.of (Same.refl F) (fun b o e => same_upd hp b o (s b o e)) (same_upd hp) (fun _ _ e => .inl e), rfl, hp, s.free hp, xs, upd_same, l, h⟩
end

section
variable {A : Fr} {r : Rho} {F H F' H' : Hp} {σ : L2.St}
theorem Own.grow {K : Kw} (ff : Same F F') (hh : Same H H') {a : Addr} {d : Dat} (h : Own K F H a d) : Own K F' H' a d := by
  cases d with
  | lst ds =>
    obtain ⟨xs, e, l, q⟩ := h
    exact ⟨xs, hh _ _ e, l, DenL.mono ff ds q⟩
  | dct ks vs =>
    obtain ⟨u, ws, zs, e, l, q1, q2⟩ := h
    exact ⟨u, ws, zs, hh _ _ e, l, DenL.mono ff ks q1, DenL.mono ff vs q2⟩
  | _ => exact h
/-- .. where the object itself stays -/
theorem Own.stay {K : Kw} (ff : Same F F') {a : Addr} (hh : ∀ o, H a = some o → H' a = some o) {d : Dat} (h : Own K F H a d) : Own K F' H' a d := by
  cases d with
  | lst ds =>
    obtain ⟨xs, e, l, q⟩ := h
    exact ⟨xs, hh _ e, l, DenL.mono ff ds q⟩
  | dct ks vs =>
    obtain ⟨u, ws, zs, e, l, q1, q2⟩ := h
    exact ⟨u, ws, zs, hh _ e, l, DenL.mono ff ks q1, DenL.mono ff vs q2⟩
  | _ => exact h
theorem Own.there {K : Kw} {a : Addr} {d : Dat} (h : Own K F H a d) : ∃ o, H a = some o := by
  cases d with
  | lst ds =>
    obtain ⟨xs, e, l, q⟩ := h
    exact ⟨_, e⟩
  | dct ks vs =>
    obtain ⟨u, ws, zs, e, l, q⟩ := h
    exact ⟨_, e⟩
  | _ => exact h.elim
theorem Own.nt {K : Kw} {a : Addr} {d : Dat} (h : Own K F H a d) : ∃ u, H a = some u ∧ ∀ ps, u ≠ .tbl ps := by
  cases d with
  | lst ds =>
    obtain ⟨xs, e, l, q⟩ := h
    exact ⟨_, e, fun ps z => nomatch z⟩
  | dct ks vs =>
    obtain ⟨u, ws, zs, e, l, q⟩ := h
    refine ⟨_, e, fun ps z => ?_⟩
    rcases l.2 with ⟨ps', z', _⟩ | ⟨ps', z', _⟩ <;> rw [z'] at z <;> cases z
  | _ => exact h.elim
/-- an address at which nothing stands was free at the entry -/
theorem Fit.free (h : Fit A r F σ H) {b : Addr} (e : H b = none) : A.H0 b = none ∧ ¬ A.io b := by
  have nio : ¬ A.io b := fun z => by
    obtain ⟨o, q⟩ := h.ioh b z
    rw [e] at q
    cases q
  refine ⟨?_, nio⟩
  cases q : A.H0 b with
  | none => rfl
  | some o =>
    rw [h.keep b o q nio] at e
    cases e
/-- what a slot owns -/
theorem SlotOk.mine {s : Sl} {a : Addr} (h : SlotOk A F H s (.ref a)) (m : s.m ≠ .fz) : F a = none ∧ ((A.H0 a = none ∧ ¬ A.io a) ∨ A.io a) ∧ Own A.K F H a s.d := by
  unfold SlotOk at h
  split at h
  · rename_i e
    exact absurd e m
  · obtain ⟨b, e, h1, h2, h3, h4⟩ := h
    cases e
    exact ⟨h1, .inl ⟨h2, h3⟩, h4⟩
  · obtain ⟨b, e, h1, h2, h4⟩ := h
    cases e
    exact ⟨h1, .inr h2, h4⟩
theorem SlotOk.ref {s : Sl} {v : V} (h : SlotOk A F H s v) (m : s.m ≠ .fz) : ∃ a, v = .ref a := by
  unfold SlotOk at h
  split at h
  · rename_i e
    exact absurd e m
  · obtain ⟨b, e, _⟩ := h
    exact ⟨b, e⟩
  · obtain ⟨b, e, _⟩ := h
    exact ⟨b, e⟩
theorem Fit.mine (h : Fit A r F σ H) {a : Addr} (m : Mine r σ a) : F a = none ∧ ((A.H0 a = none ∧ ¬ A.io a) ∨ A.io a) ∧ ∃ o, H a = some o := by
  obtain ⟨i, s, e1, em, e2⟩ := m
  obtain ⟨v, e3, q⟩ := h.slot i _ e1
  rw [e2] at e3
  cases e3
  obtain ⟨h1, h2, h3⟩ := q.mine em
  exact ⟨h1, h2, Own.there h3⟩
/-- a slot's word is carried over -/
theorem SlotOk.stay {s : Sl} {v : V} (h : SlotOk A F H s v) (ff : Same F F') (hn : ∀ a, v = .ref a → s.m ≠ .fz → F a = none → F' a = none) (hh : ∀ a, v = .ref a → s.m ≠ .fz → ∀ o, H a = some o → H' a = some o) : SlotOk A F' H' s v := by
  unfold SlotOk at h ⊢
  split
  · rename_i e
    rw [e] at h
    exact Den.mono ff _ h
  · rename_i e
    rw [e] at h
    obtain ⟨b, e1, h1, h2, h3, h4⟩ := h
    exact ⟨b, e1, hn b e1 (by rw [e]; decide) h1, h2, h3, Own.stay ff (hh b e1 (by rw [e]; decide)) h4⟩
  · rename_i e
    rw [e] at h
    obtain ⟨b, e1, h1, h2, h4⟩ := h
    exact ⟨b, e1, hn b e1 (by rw [e]; decide) h1, h2, Own.stay ff (hh b e1 (by rw [e]; decide)) h4⟩
/-- the fit stays while the heap grows -/
theorem Fit.grow (h : Fit A r F σ H) (n : New A.K F H F' H') : Fit A r F' σ H' := by
  have off : ∀ b o, A.H0 b = some o → A.K.G.tb b = false := fun b o e => by
    cases z : A.K.G.tb b with
    | false => rfl
    | true => rw [(h.tbo b z).1] at e; cases e
  have ofi : ∀ b, A.io b → A.K.G.tb b = false := fun b e => by
    cases z : A.K.G.tb b with
    | false => rfl
    | true => exact absurd e (h.tbo b z).2
  refine ⟨n.fh, fun b o e x => n.hh _ _ (h.keep b o e x) (off b o e), fun b o e => ?_, h.f0.trans n.ff, fun b x => ?_, fun i s e => ?_, h.sep, h.pro, h.len, n.tb h.tab, h.tbo⟩
  · rcases n.nw b o e with q | q
    · exact h.newf b o q
    · exact .inr (h.free q).1
  · obtain ⟨o, q⟩ := h.ioh b x
    exact ⟨o, n.hh _ _ q (ofi b x)⟩
  · obtain ⟨v, e2, q⟩ := h.slot i s e
    refine ⟨v, e2, q.stay n.ff (fun a ea em fa => ?_) (fun a ea em o ho => n.hh _ _ ho ?_)⟩
    case refine_2 =>
      subst ea
      obtain ⟨u, hu, nt⟩ := Own.nt (q.mine em).2.2
      exact h.tab.off hu nt
    subst ea
    obtain ⟨o, ho⟩ := Own.there (q.mine em).2.2
    cases qf : F' a with
    | none => rfl
    | some u =>
      rcases n.nw a u qf with z | z
      · rw [fa] at z; cases z
      · rw [ho] at z; cases z
theorem Fit.made (h : Fit A r F σ H) {v : V} {o : Out} (m : NewOk A.K F H v H' o) : ∃ F', Same F F' ∧ Fit A r F' σ H' ∧ OutOk A r F' σ H' o v := by
  cases o with
  | val d =>
    obtain ⟨F', n, q⟩ := m
    exact ⟨F', n.ff, h.grow n, q⟩
  | fresh d =>
    obtain ⟨F', a, n, e, hn, fn, q⟩ := m
    refine ⟨F', n.ff, h.grow n, a, e, fn, (h.free hn).1, (h.free hn).2, q, fun mm => ?_⟩
    obtain ⟨_, _, o, z⟩ := h.mine mm
    rw [hn] at z
    cases z
  | place i => exact m.elim
/-- a list that no slot of r owns is settled -/
theorem Fit.settleO (h : Fit A r F σ H) {a : Addr} {u : HO} (h1 : F a = none) (h2 : A.H0 a = none) (e : H a = some u) (nt : ∀ ps, u ≠ .tbl ps) (h5 : ¬ Mine r σ a) : Same F (upd F a u) ∧ Fit A r (upd F a u) σ H := by
  have sf : Same F (upd F a u) := same_upd h1
  refine ⟨sf, ⟨fun b o g => ?_, h.keep, fun b o g => ?_, h.f0.trans sf, h.ioh, fun i s g => ?_, h.sep, h.pro, h.len, fun P hP => ?_, h.tbo⟩⟩
  · by_cases hb : b = a
    · subst hb
      rw [upd_same] at g
      cases g
      exact e
    · rw [upd_ne hb] at g
      exact h.sub b o g
  · by_cases hb : b = a
    · subst hb
      exact .inr h2
    · rw [upd_ne hb] at g
      exact h.newf b o g
  · obtain ⟨v, e2, q2⟩ := h.slot i s g
    refine ⟨v, e2, q2.stay sf (fun b eb em fb => ?_) (fun _ _ _ _ ho => ho)⟩
    have nb : b ≠ a := fun z => h5 ⟨i, s, g, em, by rw [e2, eb, z]⟩
    rw [upd_ne nb]
    exact fb
  · obtain ⟨f, ps, e1, tr, q⟩ := h.tab P hP
    refine ⟨by rw [upd_ne (h.tab.ne hP e nt)]; exact f, ps, e1, tr, fun pos cv hc => ?_⟩
    obtain ⟨c, e2, e3⟩ := q pos cv hc
    exact ⟨c, e2, sf _ _ e3⟩
theorem Fit.settle (h : Fit A r F σ H) {a : Addr} {d : Dat} (h1 : F a = none) (h2 : A.H0 a = none) (h4 : Own A.K F H a d) (h5 : ¬ Mine r σ a) :
    ∃ F', Same F F' ∧ Fit A r F' σ H ∧ Den A.K F' d (.ref a) := by
  cases d with
  | lst ds =>
    obtain ⟨xs, e, l, q⟩ := h4
    obtain ⟨sf, ft⟩ := h.settleO h1 h2 e (fun ps z => nomatch z) h5
    exact ⟨_, sf, ft, a, xs, rfl, SqL.of upd_same, l, DenL.mono sf ds q⟩
  | dct ks vs =>
    obtain ⟨u, ws, zs, e, l, q1, q2⟩ := h4
    obtain ⟨sf, ft⟩ := h.settleO h1 h2 e (fun ps z => by rcases l.2 with ⟨ps', z', _⟩ | ⟨ps', z', _⟩ <;> rw [z'] at z <;> cases z) h5
    exact ⟨_, sf, ft, a, u, ws, zs, rfl, upd_same, l, DenL.mono sf ks q1, DenL.mono sf vs q2⟩
  | _ => exact h4.elim

/-! ### slots -/
theorem Mine.sub {r r' : Rho} {σ : L2.St} {a : Addr} (hs : ∀ (i : Nat) (s : Sl), r'[i]? = some (some s) → s.m ≠ .fz → r[i]? = some (some s)) (m : Mine r' σ a) : Mine r σ a := by
  obtain ⟨i, s, e1, e2, e3⟩ := m
  exact ⟨i, s, hs i s e1 e2, e2, e3⟩
/-- slots forgotten, others as they were -/
theorem Fit.less (h : Fit A r F σ H) {r' : Rho} (hl : r'.length = r.length) (hs : ∀ (i : Nat) (s : Sl), r'[i]? = some (some s) → r[i]? = some (some s)) : Fit A r' F σ H :=
  ⟨h.sub, h.keep, h.newf, h.f0, h.ioh, fun i s e => h.slot i s (hs i s e), fun i j s t a n e1 m1 e2 m2 => h.sep i j s t a n (hs i s e1) m1 (hs j t e2) m2, h.pro, hl.trans h.len, h.tab, h.tbo⟩
theorem set_get {α : Type} {r : List (Option α)} {i j : Nat} {o : Option α} {s : α} (h : (r.set i o)[j]? = some (some s)) : (j = i ∧ o = some s) ∨ (j ≠ i ∧ r[j]? = some (some s)) := by
  by_cases e : i = j
  · subst e
    rw [List.getElem?_set] at h
    split at h
    · split at h
      · left
        exact ⟨rfl, Option.some.inj h⟩
      · cases h
    · rename_i n
      exact absurd rfl n
  · rw [List.getElem?_set_ne e] at h
    exact .inr ⟨fun q => e q.symm, h⟩
theorem Fit.forget (h : Fit A r F σ H) (i : Nat) : Fit A (r.set i none) F σ H := by
  refine h.less (by rw [List.length_set]) fun j s e => ?_
  rcases set_get e with ⟨_, q⟩ | ⟨_, q⟩
  · cases q
  · exact q
/-- a new value for a slot that does not stay -/
theorem Fit.put (h : Fit A r F σ H) {i : Nat} {s : Sl} {v : V} (hp : ∀ p ∈ A.pro, p.1 ≠ i) (hv : SlotOk A F H s v) (hm : s.m ≠ .fz → ∀ a, v = .ref a → ¬ Mine r σ a) : Fit A (r.set i (some s)) F (σ.set i (some v)) H := by
  have hσ : ∀ {j : Nat} {u : V}, i < σ.length ∨ j ≠ i → σ[j]? = some (some u) → j ≠ i → (σ.set i (some v))[j]? = some (some u) := fun _ e n => by rw [List.getElem?_set_ne (Ne.symm n)]; exact e
  have self : i < σ.length → (σ.set i (some v))[i]? = some (some v) := fun hi => List.getElem?_set_self hi
  have get : ∀ {j : Nat} {t : Sl}, (r.set i (some s))[j]? = some (some t) → (j = i ∧ t = s ∧ i < σ.length) ∨ (j ≠ i ∧ r[j]? = some (some t)) := fun {j t} e => by
    rcases set_get e with ⟨rfl, q⟩ | q
    · refine .inl ⟨rfl, (Option.some.inj q).symm, ?_⟩
      rw [← h.len]
      have := (List.getElem?_eq_some_iff.mp e).1
      rw [List.length_set] at this
      exact this
    · exact .inr q
  refine ⟨h.sub, h.keep, h.newf, h.f0, h.ioh, fun j t e => ?_, fun j k t u a n e1 m1 e2 m2 s1 s2 => ?_, fun p hpp => ?_, by rw [List.length_set, List.length_set]; exact h.len, h.tab, h.tbo⟩
  · rcases get e with ⟨rfl, rfl, hi⟩ | ⟨n, q⟩
    · exact ⟨v, self hi, hv⟩
    · obtain ⟨w, e1, e2⟩ := h.slot j t q
      exact ⟨w, by rw [List.getElem?_set_ne (Ne.symm n)]; exact e1, e2⟩
  · rcases get e1 with ⟨rfl, rfl, hi⟩ | ⟨n1, q1⟩
    · rcases get e2 with ⟨rfl, _, _⟩ | ⟨n2, q2⟩
      · exact n rfl
      · rw [self hi] at s1
        rw [List.getElem?_set_ne (Ne.symm n2)] at s2
        have ev : v = .ref a := Option.some.inj (Option.some.inj s1)
        exact hm m1 a ev ⟨k, u, q2, m2, s2⟩
    · rw [List.getElem?_set_ne (Ne.symm n1)] at s1
      rcases get e2 with ⟨rfl, rfl, hi⟩ | ⟨n2, q2⟩
      · rw [self hi] at s2
        have ev : v = .ref a := Option.some.inj (Option.some.inj s2)
        exact hm m2 a ev ⟨j, t, q1, m1, s1⟩
      · rw [List.getElem?_set_ne (Ne.symm n2)] at s2
        exact h.sep j k t u a n q1 m1 q2 m2 s1 s2
  · rw [List.getElem?_set_ne (Ne.symm (hp p hpp))]
    exact h.pro p hpp

/-! ### what is held while the rest is reckoned -/
def res (r : Rho) : Out → Option Dat
  | .val d => some d
  | .fresh d => some d
  | .place i => (look r i).map (·.d)
def Held (K : Kw) (F : Hp) (σ : L2.St) : Out → V → Prop
  | .val d, v => Den K F d v
  | .fresh d, v => Den K F d v
  | .place i, v => σ[i]? = some (some v)
theorem Held.mono {K : Kw} (s : Same F F') {o : Out} {v : V} (h : Held K F σ o v) : Held K F' σ o v := by
  cases o with
  | val d => exact Den.mono s d h
  | fresh d => exact Den.mono s d h
  | place i => exact h
theorem Fit.hold (h : Fit A r F σ H) {o : Out} {v : V} (q : OutOk A r F σ H o v) : ∃ F', Same F F' ∧ Fit A r F' σ H ∧ Held A.K F' σ o v := by
  cases o with
  | val d => exact ⟨F, Same.refl F, h, q⟩
  | fresh d =>
    obtain ⟨a, rfl, h1, h2, h3, h4, h5⟩ := q
    exact h.settle h1 h2 h4 h5
  | place i => exact ⟨F, Same.refl F, h, q⟩
theorem Held.seen (h : Fit A r F σ H) {o : Out} {v : V} {d : Dat} (q : Held A.K F σ o v) (e : res r o = some d) : Seen A.K F H d v := by
  cases o with
  | val x => cases e; exact Seen.of h.sub q
  | fresh x => cases e; exact Seen.of h.sub q
  | place i =>
    have e : (look r i).map (·.d) = some d := e
    cases hl : look r i with
    | none => rw [hl] at e; cases e
    | some s =>
      rw [hl] at e
      cases e
      exact h.seen (look_some hl) q

/-- settle what an expression gave -/
def frz (r : Rho) : Out → Option (Dat × Rho)
  | .val d => some (d, r)
  | .fresh d => some (d, r)
  | .place i => match look r i with
    | some ⟨d, .fz⟩ => some (d, r)
    | some ⟨d, .own⟩ => some (d, r.set i (some ⟨d, .fz⟩))
    | _ => none
theorem Fit.frz (h : Fit A r F σ H) {o : Out} {v : V} {d : Dat} {r' : Rho} (q : OutOk A r F σ H o v) (e : frz r o = some (d, r')) : ∃ F', Same F F' ∧ Fit A r' F' σ H ∧ Den A.K F' d v := by
  cases o with
  | val x => cases e; exact ⟨F, Same.refl F, h, q⟩
  | fresh x =>
    cases e
    obtain ⟨a, rfl, h1, h2, h3, h4, h5⟩ := q
    exact h.settle h1 h2 h4 h5
  | place i =>
    have e : (match look r i with
      | some ⟨d, .fz⟩ => some (d, r)
      | some ⟨d, .own⟩ => some (d, r.set i (some ⟨d, .fz⟩))
      | _ => none) = some (d, r') := e
    split at e
    · rename_i x hl
      cases e
      obtain ⟨u, e2, qs⟩ := h.slot i _ (look_some hl)
      rw [show σ[i]? = some (some v) from q] at e2
      cases e2
      exact ⟨F, Same.refl F, h, qs⟩
    · rename_i x hl
      cases e
      have hi := look_some hl
      obtain ⟨u, e2, qs⟩ := h.slot i _ hi
      rw [show σ[i]? = some (some v) from q] at e2
      cases e2
      obtain ⟨a, rfl, h1, h2, h3, h4⟩ := qs
      have hf := h.forget i
      have nm : ¬ Mine (r.set i none) σ a := fun m => by
        obtain ⟨j, t, e1, em, e3⟩ := m
        rcases set_get e1 with ⟨_, z⟩ | ⟨n, z⟩
        · cases z
        · exact h.sep j i t _ a n z em hi (fun z => nomatch z) e3 q
      obtain ⟨F', sf, fit', dn⟩ := hf.settle h1 h2 h4 nm
      refine ⟨F', sf, ⟨fit'.sub, fit'.keep, fit'.newf, fit'.f0, fit'.ioh, fun j t g => ?_, fun j k t u b n g1 m1 g2 m2 => ?_, fit'.pro, by rw [List.length_set]; exact h.len, fit'.tab, fit'.tbo⟩, dn⟩
      · rcases set_get g with ⟨rfl, z⟩ | ⟨n, z⟩
        · cases z
          exact ⟨_, q, dn⟩
        · exact fit'.slot j t (by rw [List.getElem?_set_ne (Ne.symm n)]; exact z)
      · rcases set_get g1 with ⟨rfl, z⟩ | ⟨n1, z1⟩
        · cases z
          exact absurd rfl m1
        · rcases set_get g2 with ⟨rfl, z⟩ | ⟨n2, z2⟩
          · cases z
            exact absurd rfl m2
          · exact h.sep j k t u b n z1 m1 z2 m2
    · cases e
/-- a slot's own list is rewritten -/
theorem Fit.rewriteO (h : Fit A r F σ H) {i : Nat} {s : Sl} {a : Addr} {d : Dat} {u : HO} (e : r[i]? = some (some s)) (em : s.m ≠ .fz) (ev : σ[i]? = some (some (.ref a))) (o' : Own A.K F (upd H a u) a d) :
    Fit A (r.set i (some ⟨d, s.m⟩)) F σ (upd H a u) := by
  obtain ⟨v, e2, qs⟩ := h.slot i s e
  rw [ev] at e2
  cases e2
  obtain ⟨h1, h2, h3⟩ := qs.mine em
  obtain ⟨u0, h4, h5⟩ := Own.nt h3
  have hne : ∀ b o, F b = some o → b ≠ a := fun b o z w => by subst w; rw [h1] at z; cases z
  refine ⟨fun b o z => ?_, fun b o z y => ?_, h.newf, h.f0, fun b z => ?_, fun j t g => ?_, fun j k t u b n g1 m1 g2 m2 => ?_, h.pro, by rw [List.length_set]; exact h.len, h.tab.grow (Same.refl F) (fun P ps hP e => by rw [upd_ne (h.tab.ne hP h4 h5)]; exact e) (fun b o e => .inl e), h.tbo⟩
  · rw [upd_ne (hne b o z)]
    exact h.sub b o z
  · have nb : b ≠ a := fun w => by
      subst w
      rcases h2 with ⟨w, _⟩ | w
      · rw [z] at w; cases w
      · exact y w
    rw [upd_ne nb]
    exact h.keep b o z y
  · by_cases hb : b = a
    · subst hb
      exact ⟨_, upd_same⟩
    · rw [upd_ne hb]
      exact h.ioh b z
  · rcases set_get g with ⟨rfl, z⟩ | ⟨n, z⟩
    · cases z
      refine ⟨_, ev, ?_⟩
      unfold SlotOk at qs ⊢
      split
      · rename_i z
        exact absurd z em
      · rename_i z
        have z' : s.m = .own := z
        rw [z'] at qs
        obtain ⟨b, e3, k1, k2, k3, _⟩ := qs
        cases e3
        exact ⟨a, rfl, k1, k2, k3, o'⟩
      · rename_i z
        have z' : s.m = .io := z
        rw [z'] at qs
        obtain ⟨b, e3, k1, k2, _⟩ := qs
        cases e3
        exact ⟨a, rfl, k1, k2, o'⟩
    · obtain ⟨w, e3, q3⟩ := h.slot j t z
      refine ⟨w, e3, q3.stay (Same.refl F) (fun _ _ _ fb => fb) fun b eb mb o ho => ?_⟩
      subst eb
      have nb : b ≠ a := fun w => by
        subst w
        exact h.sep j i t s b n z mb e em e3 ev
      rw [upd_ne nb]
      exact ho
  · rcases set_get g1 with ⟨rfl, z⟩ | ⟨n1, z1⟩
    · cases z
      rcases set_get g2 with ⟨rfl, _⟩ | ⟨n2, z2⟩
      · exact absurd rfl n
      · exact h.sep j k s u b n e m1 z2 m2
    · rcases set_get g2 with ⟨rfl, z⟩ | ⟨n2, z2⟩
      · cases z
        exact h.sep j k t s b n z1 m1 e m2
      · exact h.sep j k t u b n z1 m1 z2 m2
theorem Fit.rewrite (h : Fit A r F σ H) {i : Nat} {s : Sl} {a : Addr} {ds : List Dat} {xs : List V} (e : r[i]? = some (some s)) (em : s.m ≠ .fz) (ev : σ[i]? = some (some (.ref a))) (l : xs.length ≤ sizeLine) (q : DenL A.K F ds xs) :
    Fit A (r.set i (some ⟨.lst ds, s.m⟩)) F σ (upd H a (.lst xs)) := h.rewriteO e em ev ⟨xs, upd_same, l, q⟩
theorem Fit.rewriteD (h : Fit A r F σ H) {i : Nat} {s : Sl} {a : Addr} {ks vs : List Dat} {u : HO} {ws zs : List V} (e : r[i]? = some (some s)) (em : s.m ≠ .fz) (ev : σ[i]? = some (some (.ref a))) (l : DOk A.K a u ks ws zs) (q1 : DenL A.K F ks ws) (q2 : DenL A.K F vs zs) :
    Fit A (r.set i (some ⟨.dct ks vs, s.m⟩)) F σ (upd H a u) := h.rewriteO e em ev ⟨u, ws, zs, upd_same, l, q1, q2⟩
end
end Dl

/-! Z4: a tuple times a whole number. -/
namespace Dl
open PySem PySem.Spec PyProof.Rows L2
theorem tuple_mul1 (l : Addr) (items : Array Value) (n : Nat) (dd : Option Addr) (sl : Array (Option Value)) (x : Int) (u : Tok) (c0 : (decide (x < -(2 ^ 63)) || decide (x ≥ 2 ^ 63)) = false) (c1 : (items.isEmpty || x == 1) = true) :
    Meets (Builtin.«tuple.__mul__» ⟨[.ref l, .int x u], []⟩) (fun _ R s => s.heap.get? l = some { cls := .type "tuple", dict := dd, data := .seq items n, slots := sl } ∧ R (.ok (.ret (Value.ref l))) s) :=
  .of_wp fun prog w A R s h => by
    obtain ⟨hp, g, d, tk, os⟩ := s
    obtain ⟨hl, h⟩ := h
    have f1 := AutoSeq1.idx_int
    wp_walk using wpAny_loadPart' hl
    repeat (first
      | (refine wpAny_ite_false (decide_eq_false (by rw [c0]; exact Bool.false_ne_true)) ?_; wp_walk using wpAny_loadPart' hl)
      | (refine wpAny_ite_true (decide_eq_true c1) ?_; wp_walk using wpAny_loadPart' hl))
    exact ⟨_, rfl, h⟩
theorem tuple_mul0 (l : Addr) (items : Array Value) (n : Nat) (dd : Option Addr) (sl : Array (Option Value)) (x : Int) (u : Tok) (c0 : (decide (x < -(2 ^ 63)) || decide (x ≥ 2 ^ 63)) = false) (c1 : (items.isEmpty || x == 1) = false) (c2 : (decide (x ≤ 0) || items.isEmpty) = true) :
    Meets (Builtin.«tuple.__mul__» ⟨[.ref l, .int x u], []⟩) (fun _ R s => s.heap.get? l = some { cls := .type "tuple", dict := dd, data := .seq items n, slots := sl } ∧
      R (.ok (.ret (Value.ref s.heap.objs.size))) { s with heap := s.heap.push { cls := Value.type "tuple", data := Data.seq #[] }, toks := s.toks }) :=
  .of_wp fun prog w A R s h => by
    obtain ⟨hp, g, d, tk, os⟩ := s
    obtain ⟨hl, h⟩ := h
    have f1 := AutoSeq1.idx_int
    wp_walk using wpAny_loadPart' hl
    repeat (first
      | (refine wpAny_ite_false (decide_eq_false (by rw [c0]; exact Bool.false_ne_true)) ?_; wp_walk using wpAny_loadPart' hl)
      | (refine wpAny_ite_false (decide_eq_false (by rw [c1]; exact Bool.false_ne_true)) ?_; wp_walk using wpAny_loadPart' hl)
      | (refine wpAny_ite_true (decide_eq_true c2) ?_; wp_walk using wpAny_loadPart' hl))
    exact ⟨_, rfl, h⟩
section
variable {X : Cx} {G : CK}
theorem op_mulT : OpR X (binaryOp .Mult) (fun x y H Q => ∃ l k xs, x = V.ref l ∧ y = V.int k ∧ SqT X.K H l xs ∧ 0 ≤ k ∧ k ≤ 1000 ∧ xs.length ≤ 1000 ∧ (k = 1 → Q (.ref l) H) ∧ (k ≠ 1 → ∀ p, H p = none → Q (.ref p) (upd H p (.tup (List.replicate k.toNat xs).flatten))) ∧ xs ≠ []) := by
  intro pins s σ H x y v u Q I rx ry h
  obtain ⟨l, k, xs, rfl, rfl, hT, h0, h1, hz, q1, q2, hne⟩ := h
  by_cases hk : 2 ≤ k
  · exact op_repT pins s σ H _ _ v u Q I rx ry ⟨l, k, xs, rfl, rfl, hT, hne, hk, h1, hz, q2 (by omega)⟩
  · cases rx
    obtain ⟨t, rfl⟩ := ry
    obtain ⟨its, r, ⟨⟨cls, dd, data, sl⟩, ho, hc, n, hd⟩, hs⟩ := I.tuple hT
    simp only at hc hd
    subst hc hd
    have hle : its.length = xs.length := r.length.symm
    have hn : its ≠ [] := fun e => hne (by
      rw [e] at hle
      exact List.eq_nil_of_length_eq_zero hle.symm)
    have hi : its.toArray.isEmpty = false := by
      cases its with
      | nil => exact absurd rfl hn
      | cons a b => rfl
    have c0 : (decide (k < -(2 ^ 63)) || decide (k ≥ 2 ^ 63)) = false := by
      rw [decide_eq_false (by omega), decide_eq_false (by omega)] <;> rfl
    rcases (by omega : k = 0 ∨ k = 1) with rfl | rfl
    · refine wpAny_binaryOp_repeat_ref (T := "tuple") (U := "int") (by decide) ⟨_, ho, rfl⟩ (fun s' => typeIs_int s' 0 t) noFill_tuple_mul PySem.F.fills_int_mul PySem.F.slot_int_rmul repeat_tuple PySem.F.slot_int_index.lookup
        (call_meets PySem.F.slot_int_rmul (typeIs_int s 0 t) PySem.F.entry_int_rmul (PySem.F.args_int_rmul_2 _ _) (int_rmul_tuple 0 t l its.toArray n dd sl)
          ⟨ho, rfl, ⟨_, ho, rfl⟩, call_meets PySem.F.slot_tuple_mul ⟨_, ho, rfl⟩ PySem.F.entry_tuple_mul (PySem.F.args_tuple_mul_2 _ _) (tuple_mul0 l its.toArray n dd sl 0 t c0 (by rw [hi]; rfl) rfl) ⟨ho, ?_⟩⟩)
      refine ⟨.ref s.heap.objs.size, _, I.laid (t' := s.toks) (o := .tup []) (fun b ob q => Heap.get?_push_of_some _ q) (Nat.le_refl _) ?_, rfl, q2 (by decide) _ (I.hok.fresh (Nat.le_refl _))⟩
      exact ⟨by simp, [], .nil, IsTup.new _ _⟩
    · refine wpAny_binaryOp_repeat_ref (T := "tuple") (U := "int") (by decide) ⟨_, ho, rfl⟩ (fun s' => typeIs_int s' 1 t) noFill_tuple_mul PySem.F.fills_int_mul PySem.F.slot_int_rmul repeat_tuple PySem.F.slot_int_index.lookup
        (call_meets PySem.F.slot_int_rmul (typeIs_int s 1 t) PySem.F.entry_int_rmul (PySem.F.args_int_rmul_2 _ _) (int_rmul_tuple 1 t l its.toArray n dd sl)
          ⟨ho, rfl, ⟨_, ho, rfl⟩, call_meets PySem.F.slot_tuple_mul ⟨_, ho, rfl⟩ PySem.F.entry_tuple_mul (PySem.F.args_tuple_mul_2 _ _) (tuple_mul1 l its.toArray n dd sl 1 t c0 (by rw [hi]; rfl)) ⟨ho, ?_⟩⟩)
      exact ⟨.ref l, H, I, rfl, q1 rfl⟩
end
end Dl

/-! D1b: dicts as plain data (two lists), and the model's rules for them. -/
namespace Dl
open PySem PySem.Spec PyProof.Rows L2

/-- equal as keys -/
def eqK (a b : Dat) : Bool := decide (nkey a = nkey b)
def hasK (k : Dat) (ks : List Dat) : Bool := ks.any fun x => eqK x k
def getV (k : Dat) : List Dat → List Dat → Option Dat
  | x :: ks, v :: vs => if eqK x k = true then some v else getV k ks vs
  | _, _ => none
def putV (k v : Dat) : List Dat → List Dat → List Dat
  | x :: ks, y :: vs => (if eqK x k = true then v else y) :: putV k v ks vs
  | _, _ => []
/-- a key that may be asked of a dict with the keys ks -/
def okey (ks : List Dat) (k : Dat) : Bool := (flatK k && ks.all flatK) || (tupK k && ks.all tupK)
/-- d[k] = v -/
def putD (k v : Dat) (ks vs : List Dat) : Dat := if hasK k ks = true then .dct ks (putV k v ks vs) else .dct (ks ++ [k]) (vs ++ [v])

section
variable {K : Kw} {F H : Hp}
theorem Den.key {d : Dat} {v : V} (f : flatK d = true) (h : Den K F d v) : v = kV (toK d) := by
  cases d with
  | int i => exact h
  | str x => exact h.1
  | _ => cases f
theorem Den.ofKey {d : Dat} {k : Key} (h : Den K F d (kV k)) : flatK d = true ∧ toK d = k := by
  cases d with
  | int i =>
    cases k with
    | inl j => have h : V.int j = V.int i := h; cases h; exact ⟨rfl, rfl⟩
    | inr y => have h : V.str y = V.int i := h; cases h
  | str x =>
    cases k with
    | inl j => have h : V.int j = V.str x ∧ _ := h; cases h.1
    | inr y => have h : V.str y = V.str x ∧ _ := h; cases h.1; exact ⟨rfl, rfl⟩
  | non => cases k with
    | inl j => have h : V.int j = V.non := h; cases h
    | inr j => have h : V.str j = V.non := h; cases h
  | bl b => cases k with
    | inl j => have h : V.int j = V.bl b := h; cases h
    | inr j => have h : V.str j = V.bl b := h; cases h
  | tup ds => obtain ⟨a, xs, e, _⟩ := h; cases k with
    | inl j => have e : V.int j = V.ref a := e; cases e
    | inr j => have e : V.str j = V.ref a := e; cases e
  | lst ds => obtain ⟨a, xs, e, _⟩ := h; cases k with
    | inl j => have e : V.int j = V.ref a := e; cases e
    | inr j => have e : V.str j = V.ref a := e; cases e
  | dct ks vs => obtain ⟨a, xs, _, _, e, _⟩ := h; cases k with
    | inl j => have e : V.int j = V.ref a := e; cases e
    | inr j => have e : V.str j = V.ref a := e; cases e
  | fn c ds =>
    obtain ⟨f, e⟩ := K.G.isref h
    cases k with
    | inl j => have e : V.int j = V.ref f := e; cases e
    | inr j => have e : V.str j = V.ref f := e; cases e
theorem eqK_flat {a b : Dat} (ha : flatK a = true) (hb : flatK b = true) : eqK a b = decide (toK a = toK b) := by
  unfold eqK
  cases a with
  | int i =>
    cases b with
    | int j => simp [nkey, toK]
    | str y => simp [nkey, toK]
    | _ => cases hb
  | str x =>
    cases b with
    | int j => simp [nkey, toK]
    | str y => simp [nkey, toK]
    | _ => cases hb
  | _ => cases ha
theorem keys_flat : ∀ {ks : List Dat} {ps : List (Key × V)}, DenL K F ks (ps.map fun p => kV p.1) → ks.all flatK = true
  | [], ps, _ => rfl
  | k :: ks, [], ⟨v, vs, e, _, _⟩ => by cases e
  | k :: ks, p :: ps, ⟨v, vs, e, h, r⟩ => by
    cases e
    rw [List.all_cons, (Den.ofKey h).1, keys_flat r]
    rfl
/-- looking a flat key up -/
theorem get_flat {k : Dat} (hk : flatK k = true) : ∀ {ks vs : List Dat} {ps : List (Key × V)}, DenL K F ks (ps.map fun p => kV p.1) → DenL K F vs (ps.map (·.2)) →
    hasK k ks = (valV ps (toK k)).isSome ∧ (∀ d, getV k ks vs = some d → ∃ x, valV ps (toK k) = some x ∧ Den K F d x)
  | [], vs, [], _, _ => ⟨rfl, fun d h => by unfold getV at h; cases h⟩
  | [], vs, p :: ps, h, _ => by cases h
  | k' :: ks, vs, [], ⟨v, ws, e, _, _⟩, _ => by cases e
  | k' :: ks, [], p :: ps, _, h => by cases h
  | k' :: ks, y :: vs, p :: ps, ⟨v, ws, e, h, r⟩, ⟨v2, ws2, e2, h2, r2⟩ => by
    cases e
    cases e2
    obtain ⟨f1, f2⟩ := Den.ofKey h
    obtain ⟨i1, i2⟩ := get_flat hk r r2
    have eq : eqK k' k = decide (p.1 = toK k) := by rw [eqK_flat f1 hk, f2]
    unfold hasK at i1 ⊢
    rw [List.any_cons, eq, i1]
    unfold getV
    rw [eq]
    by_cases q : p.1 = toK k
    · rw [decide_eq_true q, valV_pos q]
      refine ⟨rfl, fun d h => ?_⟩
      rw [if_pos rfl] at h
      cases h
      exact ⟨_, rfl, h2⟩
    · rw [decide_eq_false q, valV_neg q]
      refine ⟨by rw [Bool.false_or], fun d h => ?_⟩
      rw [if_neg Bool.false_ne_true] at h
      exact i2 d h
theorem rep_flat {k v : Dat} {x : V} (hk : flatK k = true) (hv : Den K F v x) : ∀ {ks vs : List Dat} {ps : List (Key × V)}, DenL K F ks (ps.map fun p => kV p.1) → DenL K F vs (ps.map (·.2)) →
    DenL K F ks ((ps.map fun kv => if kv.1 = toK k then (kv.1, x) else kv).map fun p => kV p.1) ∧ DenL K F (putV k v ks vs) ((ps.map fun kv => if kv.1 = toK k then (kv.1, x) else kv).map (·.2))
  | [], vs, [], _, _ => ⟨rfl, by unfold putV; rfl⟩
  | [], vs, p :: ps, h, _ => by cases h
  | k' :: ks, vs, [], ⟨v, ws, e, _, _⟩, _ => by cases e
  | k' :: ks, [], p :: ps, _, h => by cases h
  | k' :: ks, y :: vs, p :: ps, ⟨v1, ws, e, h, r⟩, ⟨v2, ws2, e2, h2, r2⟩ => by
    cases e
    cases e2
    obtain ⟨f1, f2⟩ := Den.ofKey h
    obtain ⟨i1, i2⟩ := rep_flat hk hv r r2
    have eq : eqK k' k = decide (p.1 = toK k) := by rw [eqK_flat f1 hk, f2]
    unfold putV
    rw [eq]
    by_cases q : p.1 = toK k
    · rw [decide_eq_true q, if_pos rfl, List.map_cons, if_pos q]
      exact ⟨⟨_, _, rfl, h, i1⟩, ⟨_, _, rfl, hv, i2⟩⟩
    · rw [decide_eq_false q, if_neg Bool.false_ne_true, List.map_cons, if_neg q]
      exact ⟨⟨_, _, rfl, h, i1⟩, ⟨_, _, rfl, h2, i2⟩⟩

/-! ### tuples for keys -/
/-- the value under a key -/
def valN (ps : List (NestedKey × Addr × V)) (k : NestedKey) : Option V := (ps.find? fun p => decide (p.1 = k)).map (·.2.2)
def putN (ps : List (NestedKey × Addr × V)) (k : NestedKey) (b : Addr) (x : V) : List (NestedKey × Addr × V) :=
  if (valN ps k).isSome = true then ps.map (fun p => if p.1 = k then (p.1, p.2.1, x) else p) else ps ++ [(k, b, x)]
theorem valN_pos {p : NestedKey × Addr × V} {r : List (NestedKey × Addr × V)} {k : NestedKey} (e : p.1 = k) : valN (p :: r) k = some p.2.2 := by simp [valN, List.find?_cons, e]
theorem valN_neg {p : NestedKey × Addr × V} {r : List (NestedKey × Addr × V)} {k : NestedKey} (e : ¬ p.1 = k) : valN (p :: r) k = valN r k := by simp [valN, List.find?_cons, e]
theorem putN_len (ps : List (NestedKey × Addr × V)) (k : NestedKey) (b : Addr) (x : V) : (putN ps k b x).length ≤ ps.length + 1 := by
  unfold putN
  split
  · rw [List.length_map]; omega
  · rw [List.length_append, List.length_singleton]; exact Nat.le_refl _
theorem putN_ne (ps : List (NestedKey × Addr × V)) (k : NestedKey) (b : Addr) (x : V) : putN ps k b x ≠ [] := by
  unfold putN
  split
  · rename_i h
    cases ps with
    | nil => simp [valN] at h
    | cons p ps => simp
  · simp
theorem get_nest {k : Dat} : ∀ {ks vs : List Dat} {ps : List (NestedKey × Addr × V)}, nkeys ks = ps.map (·.1) → DenL K F vs (ps.map (·.2.2)) →
    hasK k ks = (valN ps (nkey k)).isSome ∧ (∀ d, getV k ks vs = some d → ∃ x, valN ps (nkey k) = some x ∧ Den K F d x)
  | [], vs, [], _, _ => ⟨rfl, fun d h => by unfold getV at h; cases h⟩
  | [], vs, p :: ps, h, _ => by cases h
  | k' :: ks, vs, [], h, _ => by cases h
  | k' :: ks, [], p :: ps, _, h => by cases h
  | k' :: ks, y :: vs, p :: ps, h, ⟨v2, ws2, e2, h2, r2⟩ => by
    cases e2
    have h' : nkey k' :: nkeys ks = p.1 :: ps.map (·.1) := h
    injection h' with ha hb
    obtain ⟨i1, i2⟩ := get_nest (k := k) hb r2
    have eq : eqK k' k = decide (p.1 = nkey k) := by unfold eqK; rw [ha]
    unfold hasK at i1 ⊢
    rw [List.any_cons, eq, i1]
    unfold getV
    rw [eq]
    by_cases q : p.1 = nkey k
    · rw [decide_eq_true q, valN_pos q]
      refine ⟨rfl, fun d h => ?_⟩
      rw [if_pos rfl] at h
      cases h
      exact ⟨_, rfl, h2⟩
    · rw [decide_eq_false q, valN_neg q]
      refine ⟨by rw [Bool.false_or], fun d h => ?_⟩
      rw [if_neg Bool.false_ne_true] at h
      exact i2 d h
theorem rep_nest {k v : Dat} {x : V} (hv : Den K F v x) : ∀ {ks vs : List Dat} {ps : List (NestedKey × Addr × V)}, nkeys ks = ps.map (·.1) → DenL K F ks (ps.map fun p => V.ref p.2.1) → DenL K F vs (ps.map (·.2.2)) →
    nkeys ks = (ps.map fun p => if p.1 = nkey k then (p.1, p.2.1, x) else p).map (·.1) ∧ DenL K F ks ((ps.map fun p => if p.1 = nkey k then (p.1, p.2.1, x) else p).map fun p => V.ref p.2.1) ∧ DenL K F (putV k v ks vs) ((ps.map fun p => if p.1 = nkey k then (p.1, p.2.1, x) else p).map (·.2.2))
  | [], vs, [], _, _, _ => ⟨rfl, rfl, by unfold putV; rfl⟩
  | [], vs, p :: ps, h, _, _ => by cases h
  | k' :: ks, vs, [], h, _, _ => by cases h
  | k' :: ks, [], p :: ps, _, _, h => by cases h
  | k' :: ks, y :: vs, p :: ps, h, ⟨v1, ws1, e1, h1, r1⟩, ⟨v2, ws2, e2, h2, r2⟩ => by
    cases e1
    cases e2
    have h' : nkey k' :: nkeys ks = p.1 :: ps.map (·.1) := h
    injection h' with ha hb
    obtain ⟨i0, i1, i2⟩ := rep_nest (k := k) hv hb r1 r2
    have eq : eqK k' k = decide (p.1 = nkey k) := by unfold eqK; rw [ha]
    unfold putV
    rw [eq]
    show nkey k' :: nkeys ks = _ ∧ _
    by_cases q : p.1 = nkey k
    · rw [decide_eq_true q, if_pos rfl, List.map_cons, if_pos q, i0, ha]
      exact ⟨rfl, ⟨_, _, rfl, h1, i1⟩, ⟨_, _, rfl, hv, i2⟩⟩
    · rw [decide_eq_false q, if_neg Bool.false_ne_true, List.map_cons, if_neg q, i0, ha]
      exact ⟨rfl, ⟨_, _, rfl, h1, i1⟩, ⟨_, _, rfl, h2, i2⟩⟩
theorem nkeys_app : ∀ (a b : List Dat), nkeys (a ++ b) = nkeys a ++ nkeys b
  | [], _ => rfl
  | x :: a, b => by
    show nkey x :: nkeys (a ++ b) = _
    rw [nkeys_app a b]
    rfl
theorem nkeys_len : ∀ (a : List Dat), (nkeys a).length = a.length
  | [] => rfl
  | x :: a => by
    show (nkeys a).length + 1 = _
    rw [nkeys_len a]
    rfl
end

section
variable {X : Cx} {G : CK} {pins : List (Addr × Obj)} {σ : L2.St} {H F : Hp} {s : Shared} {a : Addr}
mutual
theorem den_nk (I : Inv X pins σ H s) (sm : Same F H) : ∀ (n : Nat) (d : Dat) {v : V} {u : Value}, nokey n d = true → Den (X.kw G) F d v → RelV v u → NestedIs s.heap (nkey d) u ∧ (nkey d).depth ≤ n
  | n, .non, v, u, _, h, r => by
    cases h
    have r : u = Value.none := r
    subst r
    exact ⟨.none, Nat.zero_le _⟩
  | n, .bl b, v, u, _, h, r => by
    cases h
    have r : u = Value.bool b := r
    subst r
    exact ⟨.bool rfl, Nat.zero_le _⟩
  | n, .int i, v, u, _, h, r => by
    cases h
    obtain ⟨t, rfl⟩ := r
    exact ⟨.int i t, Nat.zero_le _⟩
  | n, .str x, v, u, _, h, r => by
    cases h.1
    obtain ⟨t, rfl⟩ := r
    exact ⟨.text x t, Nat.zero_le _⟩
  | 0, .tup ds, v, u, f, h, r => by cases f
  | n + 1, .tup ds, v, u, f, h, r => by
    obtain ⟨b, xs, rfl, hx, lx, q⟩ := h
    have r : u = Value.ref b := r
    subst r
    obtain ⟨its, rv, ⟨o, h1, h2, m, h3⟩, _⟩ := I.tuple (Same.seqT sm hx)
    obtain ⟨g1, g2⟩ := den_nks I sm n ds f q rv
    exact ⟨.tup h1 h2 h3 (by simpa using g1), Nat.succ_le_succ g2⟩
  | n, .lst ds, v, u, f, h, r => by cases n <;> cases f
  | n, .dct ks vs, v, u, f, h, r => by cases n <;> cases f
  | n, .fn c ds, v, u, f, h, r => by cases n <;> cases f
theorem den_nks (I : Inv X pins σ H s) (sm : Same F H) : ∀ (n : Nat) (ds : List Dat) {vs : List V} {us : List Value}, nokeys n ds = true → DenL (X.kw G) F ds vs → Vals vs us → NestedAll s.heap (nkeys ds) us ∧ NestedKey.depthAll (nkeys ds) ≤ n
  | n, [], vs, us, _, h, r => by
    cases h
    cases r
    exact ⟨.nil, Nat.zero_le _⟩
  | n, d :: ds, vs, us, f, ⟨v, ws, e, h, t⟩, r => by
    cases e
    cases r with
    | cons r1 r2 =>
      have f' : (nokey n d && nokeys n ds) = true := f
      rw [Bool.and_eq_true] at f'
      obtain ⟨g1, g2⟩ := den_nk I sm n d f'.1 h r1
      obtain ⟨g3, g4⟩ := den_nks I sm n ds f'.2 t r2
      exact ⟨.cons g1 g3, Nat.max_le.mpr ⟨g2, g4⟩⟩
end
theorem tupK_is {d : Dat} (h : tupK d = true) : ∃ ds, d = .tup ds := by
  cases d with
  | tup ds => exact ⟨ds, rfl⟩
  | _ => cases h
theorem tupK_nokey {d : Dat} (h : tupK d = true) : nokey 8 d = true := by
  obtain ⟨ds, rfl⟩ := tupK_is h
  exact h
/-- a tuple as a key -/
theorem key_nest (I : Inv X pins σ H s) (sm : Same F H) {d : Dat} {v : V} {u : Value} (h : tupK d = true) (hd : Den (X.kw G) F d v) (r : RelV v u) : ∃ b, v = .ref b ∧ u = .ref b ∧ (nestedKind X.prog X.w).is s.heap (nkey d) b := by
  obtain ⟨ds, rfl⟩ := tupK_is h
  obtain ⟨g1, g2⟩ := den_nk I sm 8 _ (tupK_nokey h) hd r
  obtain ⟨b, xs, rfl, _⟩ := hd
  have r : u = Value.ref b := r
  subst r
  exact ⟨b, rfl, rfl, g1, g2⟩
theorem flat_nil {ks : List Dat} (h1 : ks.all flatK = true) (h2 : ks.all tupK = true) : ks = [] := by
  cases ks with
  | nil => rfl
  | cons k ks =>
    rw [List.all_cons, Bool.and_eq_true] at h1 h2
    obtain ⟨ds, rfl⟩ := tupK_is h2.1
    cases h1.1
abbrev PN : NestedKey × Addr × V → NestedKey × Addr × Value → Prop := fun p q => p.1 = q.1 ∧ p.2.1 = q.2.1 ∧ RelV p.2.2 q.2.2
theorem PN.val {ps : List (NestedKey × Addr × V)} {xs : List (NestedKey × Addr × Value)} (r : Paired PN ps xs) (k : NestedKey) : RelO (valN ps k) ((atKey xs k).map (·.2)) := by
  induction r with
  | nil => exact True.intro
  | @cons p q ps qs h t ih =>
    obtain ⟨h1, _, h2⟩ := h
    by_cases e : p.1 = k
    · have e' : q.1 = k := h1.symm.trans e
      have b : atKey (q :: qs) k = some q.2 := by simp [atKey, List.find?_cons, e']
      rw [valN_pos e, b]; exact h2
    · have e' : ¬ q.1 = k := fun z => e (h1.trans z)
      have b : atKey (q :: qs) k = atKey qs k := by simp [atKey, List.find?_cons, e']
      rw [valN_neg e, b]; exact ih
theorem PN.put {ps : List (NestedKey × Addr × V)} {xs : List (NestedKey × Addr × Value)} (r : Paired PN ps xs) (k : NestedKey) (b : Addr) {y : V} {u : Value} (ry : RelV y u) : Paired PN (putN ps k b y) (storedH xs k b u) := by
  have e := (PN.val r k).isSome_eq
  rw [Option.isSome_map] at e
  unfold putN storedH
  rw [e]
  by_cases q : (atKey xs k).isSome = true
  · rw [if_pos q, if_pos q]
    clear e q
    induction r with
    | nil => exact .nil
    | @cons p q ps qs h t ih =>
      rw [List.map_cons, List.map_cons]
      refine .cons ?_ ih
      obtain ⟨h1, h2, h3⟩ := h
      unfold putAt
      by_cases e : p.1 = k
      · rw [if_pos e, if_pos (h1.symm.trans e)]; exact ⟨h1, h2, ry⟩
      · rw [if_neg e, if_neg (fun z => e (h1.trans z))]; exact ⟨h1, h2, h3⟩
  · rw [if_neg q, if_neg q]; exact Paired.snoc r ⟨rfl, rfl, ry⟩
theorem paired_mem {α β : Type} {R : α → β → Prop} {l : List α} {m : List β} (r : Paired R l m) {y : β} (h : y ∈ m) : ∃ x ∈ l, R x y := by
  induction r with
  | nil => cases h
  | @cons p q ps qs h1 t ih =>
    rcases List.mem_cons.mp h with rfl | h
    · exact ⟨p, List.mem_cons_self, h1⟩
    · obtain ⟨x, hx, hr⟩ := ih h
      exact ⟨x, List.mem_cons_of_mem _ hx, hr⟩
theorem keys_at {K : Kw} : ∀ {ks : List Dat} {ps : List (NestedKey × Addr × V)}, nkeys ks = ps.map (·.1) → DenL K F ks (ps.map fun p => V.ref p.2.1) → ks.all tupK = true → ∀ p ∈ ps, ∃ d, tupK d = true ∧ nkey d = p.1 ∧ Den K F d (.ref p.2.1)
  | [], [], _, _, _, p, hp => by cases hp
  | [], _ :: _, h, _, _, _, _ => by cases h
  | _ :: _, [], h, _, _, _, _ => by cases h
  | k :: ks, p' :: ps, h, ⟨v, vs, e, d1, d2⟩, t, p, hp => by
    cases e
    have h' : nkey k :: nkeys ks = p'.1 :: ps.map (·.1) := h
    injection h' with ha hb
    rw [List.all_cons, Bool.and_eq_true] at t
    rcases List.mem_cons.mp hp with rfl | hp
    · exact ⟨k, t.1, ha, d1⟩
    · exact keys_at hb d2 t.2 p hp
theorem dn_at (I : Inv X pins σ H s) (sm : Same F H) {ps : List (NestedKey × Addr × V)} {ks : List Dat} (ha : H a = some (DN X.w a ps)) (hn : nkeys ks = ps.map (·.1)) (hk : DenL (X.kw G) F ks (ps.map fun p => V.ref p.2.1)) (ht : ks.all tupK = true) :
    ps.length ≤ sizeLine ∧ (a == sysModules) = false ∧ ∃ xs, Paired PN ps xs ∧ s.heap.DictOfH (nestedKind X.prog X.w) a xs := by
  obtain ⟨l, hs, xs, pr, o, es, ep, h1, h2, h3, h4, h5⟩ := (I.hok a _ ha).1
  refine ⟨l, hs, xs, pr, o, es, ep, h1, h2, h3, h4, fun x hx => ?_, h5⟩
  obtain ⟨p, hp, r1, r2, _⟩ := paired_mem pr hx
  obtain ⟨d, t, e, dn⟩ := keys_at hn hk ht p hp
  obtain ⟨b, e1, _, e3⟩ := key_nest I sm (u := .ref p.2.1) t dn rfl
  cases e1
  rw [← r1, ← r2, ← e]
  exact e3
theorem dn_new {P : Program} {w : World} {H' : Hp} {h' : Heap} {ps : List (NestedKey × Addr × V)} {xs : List (NestedKey × Addr × Value)} (l : ps.length ≤ sizeLine) (hs : (a == sysModules) = false) (pr : Paired PN ps xs) (dd : h'.DictOfH (nestedKind P w) a xs) : ObjOk P w H' h' a (DN w a ps) := by
  obtain ⟨o, es, ep, h1, h2, h3, h4, _, h5⟩ := dd
  refine ⟨⟨l, hs, xs, pr, o, es, ep, h1, h2, h3, h4, h5⟩, ⟨o, h1⟩, fun g1 g2 q k => ?_⟩
  obtain ⟨l, hs, xs, pr, o, es, ep, h1, h2, h3, h4, h5⟩ := q
  exact ⟨l, hs, xs, pr, o, es, ep, k o h1, h2, h3, h4, h5⟩
/-- an empty dict may get tuples for keys -/
theorem dk_nil (I : Inv X pins σ H s) (ha : H a = some (.dK [])) : (a == sysModules) = false ∧ s.heap.DictOfH (nestedKind X.prog X.w) a [] := by
  obtain ⟨_, hs, vs, rel, dd⟩ := dk_of I.hok ha
  cases rel
  obtain ⟨o, es, ep, h1, h2, h3, h4⟩ := dd
  refine ⟨hs, o, es, ep, h1, h2, h3, ?_, (fun x hx => nomatch hx), List.nodup_nil⟩
  have h4' := h4.2.1.length
  have : es.toList = [] := List.eq_nil_of_length_eq_zero h4'
  rw [this]
  rfl
/-- a dict and a key, as the model sees them -/
theorem seen_dct (I : Inv X pins σ H s) (sm : Same F H) {ks vs : List Dat} {k : Dat} {x y : V} {u : Value} (h : Seen (X.kw G) F H (.dct ks vs) x) (hk : Seen (X.kw G) F H k y) (ok : okey ks k = true) (ry : RelV y u) : ∃ a, x = .ref a ∧ Mut (H a) ∧
    ((∃ ps, H a = some (.dK ps) ∧ ps.length ≤ sizeLine ∧ DenL (X.kw G) F ks (ps.map fun p => kV p.1) ∧ DenL (X.kw G) F vs (ps.map (·.2)) ∧ flatK k = true ∧ y = kV (toK k)) ∨
     (∃ ps xs b, y = .ref b ∧ u = .ref b ∧ (nestedKind X.prog X.w).is s.heap (nkey k) b ∧ Paired PN ps xs ∧ s.heap.DictOfH (nestedKind X.prog X.w) a xs ∧ (a == sysModules) = false ∧ ps.length ≤ sizeLine ∧
       nkeys ks = ps.map (·.1) ∧ DenL (X.kw G) F ks (ps.map fun p => V.ref p.2.1) ∧ ks.all tupK = true ∧ tupK k = true ∧ DenL (X.kw G) F vs (ps.map (·.2.2)) ∧ Den (X.kw G) F k y)) := by
  obtain ⟨a, w, ws, zs, rfl, ha, ⟨hl, hd⟩, q1, q2⟩ := h
  refine ⟨a, rfl, ?_⟩
  unfold okey at ok
  rw [Bool.or_eq_true, Bool.and_eq_true, Bool.and_eq_true] at ok
  have hkd : flatK k = true ∨ tupK k = true → Den (X.kw G) F k y := fun z => by
    cases k with
    | lst ds => rcases z with z | z <;> cases z
    | dct a b => rcases z with z | z <;> cases z
    | _ => exact hk
  rcases hd with ⟨ps, rfl, rfl, rfl⟩ | ⟨ps, rfl, rfl, rfl, hn, ht, hne⟩
  · refine ⟨by rw [ha]; exact True.intro, ?_⟩
    rcases ok with ⟨o1, o2⟩ | ⟨o1, o2⟩
    · exact .inl ⟨ps, ha, by rw [List.length_map] at hl; exact hl, q1, q2, o1, Den.key o1 (hkd (.inl o1))⟩
    · have e := flat_nil (keys_flat q1) o2
      subst e
      cases ps with
      | cons p ps => cases q1
      | nil =>
        obtain ⟨hs, dd⟩ := dk_nil I ha
        obtain ⟨b, e1, e2, e3⟩ := key_nest I sm o1 (hkd (.inr o1)) ry
        exact .inr ⟨[], [], b, e1, e2, e3, .nil, dd, hs, Nat.zero_le _, rfl, rfl, rfl, o1, q2, hkd (.inr o1)⟩
  · refine ⟨by rw [ha]; exact True.intro, ?_⟩
    rcases ok with ⟨o1, o2⟩ | ⟨o1, o2⟩
    · have e := flat_nil o2 ht
      subst e
      cases ps with
      | nil => exact absurd rfl hne
      | cons p ps => cases q1
    · obtain ⟨hz, hs, xs, pr, dd⟩ := dn_at I sm ha hn q1 ht
      obtain ⟨b, e1, e2, e3⟩ := key_nest I sm o1 (hkd (.inr o1)) ry
      exact .inr ⟨ps, xs, b, e1, e2, e3, pr, dd, hs, hz, hn, q1, ht, o1, q2, hkd (.inr o1)⟩
theorem room8 {A : Around} (hu : A.units + 64 < cLine) : (nestedKind X.prog X.w).room A.in1 := by
  show A.units + 1 + 8 < cLine
  omega
/-- d[k] -/
theorem d_at (hu : X.A.units + 64 < cLine) (I : Inv X pins σ H s) (sm : Same F H) {ks vs : List Dat} {k d : Dat} {x y : V} {v u : Value} {Q : Value → Shared → Prop} {E : Value → Shared → Prop} (h : Seen (X.kw G) F H (.dct ks vs) x) (hk : Seen (X.kw G) F H k y) (ok : okey ks k = true) (rx : RelV x v) (ry : RelV y u)
    (hg : getV k ks vs = some d) (q : ∀ z w' s', Inv X pins σ H s' → RelV z w' → Den (X.kw G) F d z → Q w' s') : wpAny (model X.prog X.w) X.A (getItem v u) Q E s := by
  obtain ⟨a, rfl, mu, hc⟩ := seen_dct I sm h hk ok ry
  obtain rfl : v = Value.ref a := rx
  rcases hc with ⟨ps, ha, hl, q1, q2, fk, rfl⟩ | ⟨ps, xs, b, rfl, rfl, hkey, pr, dd, hs, hz, hn, q1, ht, tk, q2, _⟩
  · obtain ⟨z, hz, dz⟩ := (get_flat fk q1 q2).2 d hg
    exact d_getItem (by omega) I (by rw [← hz]; exact DGet.k ha) ry fun w' s' I' r' => q z w' s' I' r' dz
  · obtain ⟨z, hz, dz⟩ := (get_nest hn q2).2 d hg
    obtain ⟨w', hw, rw'⟩ := RelO.some_of (v := z) (o := (atKey xs (nkey k)).map (·.2)) (by rw [← hz]; exact PN.val pr _)
    obtain ⟨p, hp, hp2⟩ := Option.map_eq_some_iff.mp hw
    refine wpAny_getItem_heap (room8 hu) hkey dd hp ?_
    rw [hp2]
    exact q z w' _ (I.tok _) rw' dz
theorem d_in_ok (hu : X.A.units + 64 < cLine) (I : Inv X pins σ H s) (sm : Same F H) {ks vs : List Dat} {k : Dat} {x y : V} {v u : Value} {Q : Value → Shared → Prop} {E : Value → Shared → Prop} (h : Seen (X.kw G) F H (.dct ks vs) x) (hk : Seen (X.kw G) F H k y) (ok : okey ks k = true) (rx : RelV x v) (ry : RelV y u)
    (q : ∀ s', Inv X pins σ H s' → Q (.bool (hasK k ks)) s') : wpAny (model X.prog X.w) X.A (compareOp .In u v) Q E s := by
  obtain ⟨a, rfl, mu, hc⟩ := seen_dct I sm h hk ok ry
  obtain rfl : v = Value.ref a := rx
  rcases hc with ⟨ps, ha, hl, q1, q2, fk, rfl⟩ | ⟨ps, xs, b, rfl, rfl, hkey, pr, dd, hs, hz, hn, q1, ht, tk, q2, _⟩
  · rw [(get_flat fk q1 q2).1] at q
    exact d_in (by omega) I (DGet.k ha) ry q
  · rw [(get_nest (k := k) hn q2).1, (PN.val pr _).isSome_eq, Option.isSome_map] at q
    exact wpAny_in_heap (room8 hu) hkey hs dd (q _ (I.tok _))
theorem d_notIn_ok (hu : X.A.units + 64 < cLine) (I : Inv X pins σ H s) (sm : Same F H) {ks vs : List Dat} {k : Dat} {x y : V} {v u : Value} {Q : Value → Shared → Prop} {E : Value → Shared → Prop} (h : Seen (X.kw G) F H (.dct ks vs) x) (hk : Seen (X.kw G) F H k y) (ok : okey ks k = true) (rx : RelV x v) (ry : RelV y u)
    (q : ∀ s', Inv X pins σ H s' → Q (.bool (!hasK k ks)) s') : wpAny (model X.prog X.w) X.A (compareOp .NotIn u v) Q E s := by
  obtain ⟨a, rfl, mu, hc⟩ := seen_dct I sm h hk ok ry
  obtain rfl : v = Value.ref a := rx
  rcases hc with ⟨ps, ha, hl, q1, q2, fk, rfl⟩ | ⟨ps, xs, b, rfl, rfl, hkey, pr, dd, hs, hz, hn, q1, ht, tk, q2, _⟩
  · rw [(get_flat fk q1 q2).1] at q
    exact d_notIn (by omega) I (DGet.k ha) ry q
  · rw [(get_nest (k := k) hn q2).1, (PN.val pr _).isSome_eq, Option.isSome_map] at q
    exact wpAny_notIn_heap (room8 hu) hkey hs dd (q _ (I.tok _))
/-- what is behind d[k] = z -/
structure Put (K : Kw) (F H : Hp) (a : Addr) (d : Dat) (H' : Hp) : Prop where
  ex : ∃ u, H' = upd H a u ∧ Own K F H' a d
theorem putD_flat {K : Kw} {k v : Dat} {x : V} {ks vs : List Dat} {ps : List (Key × V)} (hk : flatK k = true) (dk : Den K F k (kV (toK k))) (hv : Den K F v x) (hl : ps.length < sizeLine) (q1 : DenL K F ks (ps.map fun p => kV p.1)) (q2 : DenL K F vs (ps.map (·.2))) :
    Own K F (upd H a (.dK (putK ps (toK k) x))) a (putD k v ks vs) := by
  have e := (get_flat hk q1 q2).1
  have hz : (putK ps (toK k) x).length ≤ sizeLine := by have := length_putK ps (toK k) x; omega
  unfold putD
  rw [e, ← valV_any]
  unfold putK at hz ⊢
  by_cases z : (ps.any fun kv => decide (kv.1 = toK k)) = true
  · rw [if_pos z] at hz ⊢
    rw [if_pos z]
    obtain ⟨r1, r2⟩ := rep_flat hk hv q1 q2
    exact ⟨_, _, _, upd_same, ⟨by rw [List.length_map]; exact hz, .inl ⟨_, rfl, rfl, rfl⟩⟩, r1, r2⟩
  · rw [if_neg z] at hz ⊢
    rw [if_neg z]
    refine ⟨_, _, _, upd_same, ⟨by rw [List.length_map]; exact hz, .inl ⟨_, rfl, rfl, rfl⟩⟩, ?_, ?_⟩
    · rw [List.map_append]
      exact DenL.app q1 (DenL.one dk)
    · rw [List.map_append]
      exact DenL.app q2 (DenL.one hv)
theorem putD_nest {K : Kw} {k v : Dat} {x : V} {b : Addr} {ks vs : List Dat} {ps : List (NestedKey × Addr × V)} (hk : tupK k = true) (dk : Den K F k (.ref b)) (hv : Den K F v x) (hl : ps.length < sizeLine) (hn : nkeys ks = ps.map (·.1)) (ht : ks.all tupK = true) (q1 : DenL K F ks (ps.map fun p => V.ref p.2.1)) (q2 : DenL K F vs (ps.map (·.2.2))) :
    Own K F (upd H a (DN K.w a (putN ps (nkey k) b x))) a (putD k v ks vs) := by
  have e := (get_nest (k := k) hn q2).1
  have hz : (putN ps (nkey k) b x).length ≤ sizeLine := by have := putN_len ps (nkey k) b x; omega
  have hne := putN_ne ps (nkey k) b x
  unfold putD
  rw [e]
  unfold putN at hz hne ⊢
  by_cases z : (valN ps (nkey k)).isSome = true
  · rw [if_pos z] at hz hne ⊢
    rw [if_pos z]
    obtain ⟨r0, r1, r2⟩ := rep_nest (k := k) hv hn q1 q2
    exact ⟨_, _, _, upd_same, ⟨by rw [List.length_map]; exact hz, .inr ⟨_, rfl, rfl, rfl, r0, ht, hne⟩⟩, r1, r2⟩
  · rw [if_neg z] at hz hne ⊢
    rw [if_neg z]
    refine ⟨_, _, _, upd_same, ⟨by rw [List.length_map]; exact hz, .inr ⟨_, rfl, rfl, rfl, ?_, ?_, hne⟩⟩, ?_, ?_⟩
    · rw [nkeys_app, hn, List.map_append]
      rfl
    · rw [List.all_append, ht, List.all_cons, hk]
      rfl
    · rw [List.map_append]
      exact DenL.app q1 (DenL.one dk)
    · rw [List.map_append]
      exact DenL.app q2 (DenL.one hv)
/-- d[k] = z -/
theorem d_put_ok (hu : X.A.units + 64 < cLine) (I : Inv X pins σ H s) (sm : Same F H) {ks vs : List Dat} {k d : Dat} {y z : V} {u r : Value} {Q : Unit → Shared → Prop} {E : Value → Shared → Prop} (h : Seen (X.kw G) F H (.dct ks vs) (.ref a)) (hk : Seen (X.kw G) F H k y) (ok : okey ks k = true) (ry : RelV y u) (rz : RelV z r)
    (dz : Den (X.kw G) F d z) (hl : ks.length < sizeLine) (q : ∀ H' s', Put (X.kw G) F H a (putD k d ks vs) H' → Inv X pins σ H' s' → Q () s') : wpAny (model X.prog X.w) X.A (setItem (.ref a) u r) Q E s := by
  obtain ⟨a', ea, mu, hc⟩ := seen_dct I sm h hk ok ry
  cases ea
  rcases hc with ⟨ps, ha, _, q1, q2, fk, rfl⟩ | ⟨ps, xs, b, rfl, rfl, hkey, pr, dd, hs, hz, hn, q1, ht, tk, q2, dk⟩
  · have hl' : ps.length < sizeLine := by have := DenL.length q1; rw [List.length_map] at this; omega
    have dk : Den (X.kw G) F k (kV (toK k)) := by cases k with
      | int i => exact rfl
      | str x => exact hk
      | _ => cases fk
    exact d_setItem (by omega) I (DPut.k ha hl') ry rz fun s' I' => q _ s' ⟨_, rfl, putD_flat fk dk dz hl' q1 q2⟩ I'
  · have hl' : ps.length < sizeLine := by have := DenL.length q1; rw [List.length_map] at this; omega
    refine wpAny_setItem_heap (hsz := by rw [← Paired.length pr]; exact hz) (room8 hu) hkey dd fun h' dd' hs' => ?_
    have he : ∃ q, h'.get? a = some q := let ⟨q, _, _, hq, _⟩ := dd'; ⟨q, hq⟩
    have hz' : (putN ps (nkey k) b z).length ≤ sizeLine := by have := putN_len ps (nkey k) b z; omega
    exact q _ _ ⟨_, rfl, putD_nest (K := (X.kw G)) tk dk dz hl' hn ht q1 q2⟩ (d_write I mu hs' he (dn_new hz' hs (PN.put pr (nkey k) b rz) dd'))
/-- d.setdefault(k, z) -/
theorem d_setd_ok (hu : X.A.units + 64 < cLine) (I : Inv X pins σ H s) (sm : Same F H) {ks vs : List Dat} {k d : Dat} {y z : V} {u r : Value} {Q : Value → Shared → Prop} {E : Value → Shared → Prop} (h : Seen (X.kw G) F H (.dct ks vs) (.ref a)) (hk : Seen (X.kw G) F H k y) (ok : okey ks k = true) (ry : RelV y u) (rz : RelV z r)
    (dz : Den (X.kw G) F d z) (hl : ks.length < sizeLine) (hlv : vs.length = ks.length) (q1' : ∀ e, getV k ks vs = some e → ∀ x w' s', Inv X pins σ H s' → RelV x w' → Den (X.kw G) F e x → Q w' s') (q2' : hasK k ks = false → ∀ H' w' s', Put (X.kw G) F H a (putD k d ks vs) H' → Inv X pins σ H' s' → RelV z w' → Q w' s') :
    wpAny (model X.prog X.w) X.A (call (.builtin "dict.setdefault") [.ref a, u, r]) Q E s := by
  have hsome : hasK k ks = true → ∃ e, getV k ks vs = some e := by
    clear q1' q2' hl ok h hk
    induction ks generalizing vs with
    | nil => intro h; cases h
    | cons x ks ih =>
      intro h
      cases vs with
      | nil => cases hlv
      | cons v vs =>
        unfold getV
        by_cases e : eqK x k = true
        · exact ⟨v, by rw [if_pos e]⟩
        · rw [if_neg e]
          refine ih (by simpa using hlv) ?_
          unfold hasK at h ⊢
          rw [List.any_cons] at h
          simpa [e] using h
  obtain ⟨a', ea, mu, hc⟩ := seen_dct I sm h hk ok ry
  cases ea
  rcases hc with ⟨ps, ha, _, q1, q2, fk, rfl⟩ | ⟨ps, xs, b, rfl, rfl, hkey, pr, dd, hs, hz, hn, q1, ht, tk, q2, dk⟩
  · have hl' : ps.length < sizeLine := by have := DenL.length q1; rw [List.length_map] at this; omega
    have dk : Den (X.kw G) F k (kV (toK k)) := by cases k with
      | int i => exact rfl
      | str x => exact hk
      | _ => cases fk
    obtain ⟨g1, g2⟩ := get_flat fk q1 q2
    refine d_setd I ha ry rz hl' (fun v hv w' s' I' r' => ?_) (fun hv w' s' I' r' => ?_)
    · obtain ⟨e, he⟩ := hsome (by rw [g1, hv]; rfl)
      obtain ⟨x, hx, dx⟩ := g2 e he
      rw [hv] at hx
      cases hx
      exact q1' e he _ w' s' I' r' dx
    · exact q2' (by rw [g1, hv]; rfl) _ w' s' ⟨_, rfl, putD_flat fk dk dz hl' q1 q2⟩ I' r'
  · have hl' : ps.length < sizeLine := by have := DenL.length q1; rw [List.length_map] at this; omega
    obtain ⟨g1, g2⟩ := get_nest (k := k) hn q2
    have hv := PN.val pr (nkey k)
    refine call_setdefault_heap (hsz := by rw [← Paired.length pr]; exact hz) (room8 hu) hkey hs dd (fun p hp => ?_) fun hn' h' dd' hs' => ?_
    · rw [hp] at hv
      cases q0 : valN ps (nkey k) with
      | none => rw [q0] at hv; exact (show False from hv).elim
      | some v0 =>
        rw [q0] at hv
        obtain ⟨e, he⟩ := hsome (by rw [g1, q0]; rfl)
        obtain ⟨x, hx, dx⟩ := g2 e he
        rw [q0] at hx
        cases hx
        exact q1' e he _ _ _ (I.tok _) hv dx
    · rw [hn'] at hv
      cases q0 : valN ps (nkey k) with
      | some v0 => rw [q0] at hv; exact (show False from hv).elim
      | none =>
        have he : ∃ q, h'.get? a = some q := let ⟨q, _, _, hq, _⟩ := dd'; ⟨q, hq⟩
        have hz' : (putN ps (nkey k) b z).length ≤ sizeLine := by have := putN_len ps (nkey k) b z; omega
        exact q2' (by rw [g1, q0]; rfl) _ _ _ ⟨_, rfl, putD_nest (K := (X.kw G)) tk dk dz hl' hn ht q1 q2⟩ (d_write I mu hs' he (dn_new hz' hs (PN.put pr (nkey k) b rz) dd')) rz
theorem d_type (I : Inv X pins σ H s) {ks vs : List Dat} {x : V} {v : Value} (h : Seen (X.kw G) F H (.dct ks vs) x) (rx : RelV x v) : s.TypeIs v "dict" := by
  obtain ⟨a, w, ws, zs, rfl, ha, ⟨hl, hd⟩, q1, q2⟩ := h
  obtain rfl : v = Value.ref a := rx
  rcases hd with ⟨ps, rfl, rfl, rfl⟩ | ⟨ps, rfl, rfl, rfl, hn, ht, hne⟩
  · obtain ⟨_, _, _, _, dd⟩ := dk_of I.hok ha
    exact dd.typeIs
  · obtain ⟨l, hs, xs, pr, o, es, ep, h1, h2, h3, h4, h5⟩ := (I.hok a _ ha).1
    exact ⟨o, h1, h2.1⟩
theorem DOk.flat {K : Kw} {u : HO} {ks : List Dat} {ws zs : List V} (h : DOk K a u ks ws zs) (f : ks.all flatK = true) (q : DenL K F ks ws) : ∃ ps, u = .dK ps ∧ ws = ps.map (fun p => kV p.1) ∧ zs = ps.map (·.2) := by
  rcases h.2 with z | ⟨ps, rfl, rfl, rfl, hn, ht, hne⟩
  · exact z
  · have e := flat_nil f ht
    subst e
    cases ps with
    | nil => exact absurd rfl hne
    | cons p ps => cases q
/-- len(d) -/
theorem d_len_ok (I : Inv X pins σ H s) (sm : Same F H) {ks vs : List Dat} {x : V} {v : Value} {Q : Value → Shared → Prop} {E : Value → Shared → Prop} (h : Seen (X.kw G) F H (.dct ks vs) x) (rx : RelV x v)
    (q : ∀ t s', Inv X pins σ H s' → Q (.int ks.length t) s') : wpAny (model X.prog X.w) X.A (call (.builtin "len") [v]) Q E s := by
  obtain ⟨a, w, ws, zs, rfl, ha, ⟨hl, hd⟩, q1, q2⟩ := h
  obtain rfl : v = Value.ref a := rx
  have e := DenL.length q1
  rcases hd with ⟨ps, rfl, rfl, rfl⟩ | ⟨ps, rfl, rfl, rfl, hn, ht, hne⟩
  · rw [List.length_map] at e
    rw [e] at q
    exact d_len I (.inl ha) q
  · obtain ⟨hz, hs, xs, pr, dd⟩ := dn_at I sm ha hn q1 ht
    rw [List.length_map, Paired.length pr] at e
    rw [e] at q
    refine call_len_dictH hs dd ?_ (q _ _ (I.tok _))
    rw [Paired.length pr, sizeLine_eq] at hz
    omega
/-- dict's own store -/
theorem d_dset_ok (hu : X.A.units + 64 < cLine) (I : Inv X pins σ H s) (sm : Same F H) {ks vs : List Dat} {k d : Dat} {y z : V} {u r : Value} {Q : Unit → Shared → Prop} {E : Value → Shared → Prop} (h : Seen (X.kw G) F H (.dct ks vs) (.ref a)) (hk : Seen (X.kw G) F H k y) (ok : okey ks k = true) (ry : RelV y u) (rz : RelV z r)
    (dz : Den (X.kw G) F d z) (hl : ks.length < sizeLine) (q : ∀ H' s', Put (X.kw G) F H a (putD k d ks vs) H' → Inv X pins σ H' s' → Q () s') : wpAny (model X.prog X.w) X.A (dictSet a u r) Q E s := by
  obtain ⟨a', ea, mu, hc⟩ := seen_dct I sm h hk ok ry
  cases ea
  rcases hc with ⟨ps, ha, _, q1, q2, fk, rfl⟩ | ⟨ps, xs, b, rfl, rfl, hkey, pr, dd, hs, hz, hn, q1, ht, tk, q2, dk⟩
  · have hl' : ps.length < sizeLine := by have := DenL.length q1; rw [List.length_map] at this; omega
    have dk : Den (X.kw G) F k (kV (toK k)) := by cases k with
      | int i => exact rfl
      | str x => exact hk
      | _ => cases fk
    obtain ⟨z', hd, vs', rel, dd⟩ := dk_of I.hok ha
    have hz : vs'.length ≤ sizeLine := by rw [← rel.length]; exact z'
    have hl2 : (putK ps (toK k) z).length ≤ sizeLine := by have := length_putK ps (toK k) z; omega
    refine wpAny_dictSet_pairs (knd := mixKind X.prog X.w) (hsz := hz) (kV_is ry) dd fun h' dd' hs => q _ _ ⟨_, rfl, putD_flat fk dk dz hl' q1 q2⟩ ?_
    have he : ∃ q, h'.get? a = some q := let ⟨q, _, _, hq, _⟩ := dd'; ⟨q, hq⟩
    exact d_write I mu hs he (dk_new hl2 hd (rel.put (toK k) rz) dd')
  · have hl' : ps.length < sizeLine := by have := DenL.length q1; rw [List.length_map] at this; omega
    refine wpAny_dictSet_heap (hsz := by rw [← Paired.length pr]; exact hz) (show X.A.units + 8 < cLine by omega) hkey dd fun h' dd' hs' => ?_
    have he : ∃ q, h'.get? a = some q := let ⟨q, _, _, hq, _⟩ := dd'; ⟨q, hq⟩
    have hz' : (putN ps (nkey k) b z).length ≤ sizeLine := by have := putN_len ps (nkey k) b z; omega
    exact q _ _ ⟨_, rfl, putD_nest (K := (X.kw G)) tk dk dz hl' hn ht q1 q2⟩ (d_write I mu hs' he (dn_new hz' hs (PN.put pr (nkey k) b rz) dd'))
theorem d_nodict (I : Inv X pins σ H s) {ks vs : List Dat} {x : V} {v : Value} (h : Seen (X.kw G) F H (.dct ks vs) x) (rx : RelV x v) : ∀ b, v = .ref b → ∃ ob, s.heap.get? b = some ob ∧ ob.dict = none := by
  obtain ⟨a, w, ws, zs, rfl, ha, ⟨hl, hd⟩, q1, q2⟩ := h
  obtain rfl : v = Value.ref a := rx
  intro b e
  cases e
  rcases hd with ⟨ps, rfl, rfl, rfl⟩ | ⟨ps, rfl, rfl, rfl, hn, ht, hne⟩
  · obtain ⟨_, _, vs, _, ob, _, _, h1, h2, _⟩ := dk_of I.hok ha
    exact ⟨ob, h1, h2.2.1⟩
  · obtain ⟨l, hs, xs, pr, o, es, ep, h1, h2, h3, h4, h5⟩ := (I.hok a _ ha).1
    exact ⟨o, h1, h2.2.1⟩
end
/-- pairs, one behind the other, as a dict -/
def mkD : List Dat → List Dat → List Dat → Option Dat
  | [], ks, vs => some (.dct ks vs)
  | k :: v :: r, ks, vs => if okey ks k = true ∧ ks.length < 1000 then (match putD k v ks vs with | .dct ks' vs' => mkD r ks' vs' | _ => none) else none
  | [_], _, _ => none
def Den2 (K : Kw) (F : Hp) : List Dat → List (V × V) → Prop
  | [], ps => ps = []
  | k :: v :: r, ps => ∃ x y qs, ps = (x, y) :: qs ∧ Den K F k x ∧ Den K F v y ∧ Den2 K F r qs
  | [_], _ => False
theorem Own.seen {K : Kw} {F H : Hp} {a : Addr} {d : Dat} (h : Own K F H a d) : Seen K F H d (.ref a) := Seen.own h
section
variable {X : Cx} {G : CK} {pins : List (Addr × Obj)} {σ : L2.St} {F : Hp} {a : Addr}
theorem okey_seen {K : Kw} {F H : Hp} {ks : List Dat} {k : Dat} {v : V} (ok : okey ks k = true) (h : Den K F k v) : Seen K F H k v := by
  unfold okey at ok
  cases k with
  | lst ds => simp [flatK, tupK] at ok
  | dct a b => simp [flatK, tupK] at ok
  | _ => exact h
theorem store_all (hu : X.A.units + 64 < cLine) (ha : F a = none) {E : Value → Shared → Prop} : ∀ (ds : List Dat) {ks vs : List Dat} {d : Dat} {ps : List (V × V)} {us : List (Value × Value)} {H : Hp} {s : Shared} {Q : PUnit → Shared → Prop}, Inv X pins σ H s → Same F H → Own (X.kw G) F H a (.dct ks vs) → Den2 (X.kw G) F ds ps → VV ps us → mkD ds ks vs = some d →
    (∀ H' s', (∃ u, H' = upd H a u) → Own (X.kw G) F H' a d → Inv X pins σ H' s' → Q PUnit.unit s') → wpAny (model X.prog X.w) X.A (storeAll a us) Q E s
  | [], ks, vs, d, ps, us, H, s, Q, I, sm, ow, d2, vv, hm, q => by
    have d2 : ps = [] := d2
    subst d2
    cases vv
    cases hm
    obtain ⟨o, ho⟩ := Own.there ow
    unfold storeAll
    rw [List.forIn_nil]
    have e : H = upd H a o := by
      funext b
      by_cases hb : b = a
      · subst hb; rw [upd_same, ho]
      · rw [upd_ne hb]
    exact wpAny_pure (q H s ⟨o, e⟩ ow I)
  | [_], ks, vs, d, ps, us, H, s, Q, I, sm, ow, d2, vv, hm, q => d2.elim
  | k :: v :: r, ks, vs, d, ps, us, H, s, Q, I, sm, ow, d2, vv, hm, q => by
    obtain ⟨x, y, qs, rfl, dk, dv, d3⟩ := d2
    cases vv with
    | @cons _ q' _ us' h t =>
      obtain ⟨u1, u2⟩ := q'
      unfold mkD at hm
      split at hm
      · rename_i hok
        unfold storeAll
        rw [List.forIn_cons]
        refine wpAny_bind (wpAny_bind (d_dset_ok hu I sm (Own.seen ow) (okey_seen hok.1 dk) hok.1 h.1 h.2 dv (by rw [sizeLine_eq]; omega) fun H1 s1 pt I1 => wpAny_pure ?_))
        obtain ⟨u, rfl, ow1⟩ := pt
        have sm1 : Same F (upd H a u) := fun b o e => by
          rw [upd_ne (fun z => by subst z; rw [ha] at e; cases e)]
          exact sm b o e
        split at hm
        · rename_i ks' vs' hp
          rw [hp] at ow1
          refine store_all hu ha r I1 sm1 ow1 d3 t hm fun H' s' hH ow' I' => q H' s' ?_ ow' I'
          obtain ⟨u', rfl⟩ := hH
          refine ⟨u', ?_⟩
          funext b
          by_cases hb : b = a
          · subst hb; rw [upd_same, upd_same]
          · rw [upd_ne hb, upd_ne hb, upd_ne hb]
        · cases hm
      · cases hm
/-- {k: v, ..} -/
def tDspD (K : Kw) (trs : List (TE × TE)) : TE := fun σ H Q => ∀ p, H p = none → tPairs trs σ (upd H p (.dK [])) fun ps H2 => H2 p = some (.dK []) ∧ ∃ F ds d, Same F H2 ∧ F p = none ∧ Den2 K F ds ps ∧ mkD ds [] [] = some d ∧ ∀ H3, (∃ u, H3 = upd H2 p u) → Own K F H3 p d → Q (.ref p) H3
theorem pe_dspD {pos : Pos} {keys : List (Option Expr)} {values : List Expr} {trs : List (TE × TE)} (hu : X.A.units + 64 < cLine) (h : PPs X pos keys values trs) (hall : keys.all (·.isSome) = true) (hl : keys.length = values.length) (h0 : keys ≠ [])
    (h15 : keys.length ≤ 15) : PE X (.Dict keys values pos) (tDspD (X.kw G) trs) := by
  refine ⟨fun pins s σ H Q I q => ?_⟩
  have hn := I.hok.fresh (Nat.le_refl s.heap.objs.size)
  have I1 := I.laid (a := s.heap.objs.size) (o := .dK []) (h' := s.heap.push { cls := .type "dict", data := .dict #[] }) (t' := s.toks) (fun _ _ q => Heap.get?_push_of_some _ q) (Nat.le_refl _) (dk_empty s.heap I.big)
  refine wpAny_Dict_any hall hl h0 h15 (thn (h.run pins _ σ _ _ I1 (q _ hn)) fun ws s2 ⟨ps, H2, I2, rel, e, F, ds, d, sm, hp, d2, hm, q2⟩ => ?_)
  exact store_all (ks := []) (vs := []) hu hp ds I2 sm ⟨_, [], [], e, ⟨Nat.zero_le _, .inl ⟨[], rfl, rfl, rfl⟩⟩, DenL.nil, DenL.nil⟩ d2 rel hm fun H' s' hH ow I' => ⟨.ref s.heap.objs.size, H', I', rfl, q2 H' hH ow⟩
def tBMD (K : Kw) (r : V → List V → Hp → VK → Prop) (to : TE) (t : TA) : TE := fun σ H Q => to σ H fun x H1 => (∃ F ks vs, Seen K F H1 (.dct ks vs) x) ∧ t σ H1 fun xs H2 => r x xs H2 Q
theorem pe_bmD {id : String} {name : Str} {r : V → List V → Hp → VK → Prop} {o e : Expr} {es : List Expr} {to : TE} {t : TA} {apos cpos : Pos} (slot : Slot "dict" name id) (hty : typeOf (.builtin id) = pure (.type "method_descriptor")) (hm : MtR X id r) (ho : PE X o to) (ha : PA X (e :: es) t)
    (hbase : attributeBase o name X.env (eval o X.env) = eval o X.env)
    (hfew : ((backTo cpos (starEach (e :: es) X.env)).all (fun x => !x.1) && (backToKw cpos (keywordEach [] X.env)).all (fun x => x.1.isSome)
      && decide ((e :: es).length + ([] : List Keyword).length + (if ([] : List Keyword).isEmpty then 0 else 1) < 30)) = true)
    (hline : (apos.endLine == cpos.line) = true) (hs : starEach (e :: es) X.env = (false, eval e X.env) :: starEach es X.env) (hplain : (backTo cpos (starEach es X.env)).any (·.1) = false) :
    PE X (.Call (.Attribute o name apos) (e :: es) [] cpos) (tBMD (X.kw G) r to t) := by
  refine ⟨fun pins s σ H Q I h => ?_⟩
  refine wpAny_Call_method_late hbase hfew hline rfl (thn (ho.run pins s σ H _ I h) fun v s1 ⟨x, H1, I1, r1, ⟨F, ks, vs, sn⟩, q1⟩ => ?_)
  refine ⟨"dict", id, PySem.F.plainAttrs_dict, slot, hty, d_type I1 sn r1, d_nodict I1 sn r1, ?_⟩
  have hA := ha.run cpos pins s1 σ H1 _ I1 q1
  rw [hs] at hA ⊢
  refine Calls.callWith_builtin (by show (false || (backTo cpos (starEach es X.env)).any (·.1)) = false; rw [hplain] <;> rfl) (Calls.evalArgs_plain ?_)
  exact thn hA fun us s2 ⟨vs, H2, I2, r2, q2⟩ => hm pins s2 σ H2 x vs v us Q I2 r1 r2 q2
def rSetd (K : Kw) : V → List V → Hp → VK → Prop := fun x xs H Q => ∃ a y z F ks vs k d, x = .ref a ∧ xs = [y, z] ∧ Same F H ∧ Seen K F H (.dct ks vs) x ∧ Seen K F H k y ∧ okey ks k = true ∧ Den K F d z ∧ ks.length < sizeLine ∧ vs.length = ks.length ∧
  (∀ e, getV k ks vs = some e → ∀ w, Den K F e w → Q w H) ∧ (hasK k ks = false → ∀ H', Put K F H a (putD k d ks vs) H' → Q z H')
theorem mt_setd (hu : X.A.units + 64 < cLine) : MtR X "dict.setdefault" (rSetd (X.kw G)) := by
  intro pins s σ H x xs v us Q I rx rs h
  obtain ⟨a, y, z, F, ks, vs, k, d, rfl, rfl, sm, hd, hk, ok, dz, hl, hlv, q1, q2⟩ := h
  obtain rfl : v = Value.ref a := rx
  obtain ⟨u1, u2, rfl, r1, r2⟩ := rs.two
  exact d_setd_ok hu I sm hd hk ok r1 r2 dz hl hlv (fun e he x w' s' I' r' dx => ⟨x, H, I', r', q1 e he x dx⟩) (fun hn H' w' s' pt I' r' => ⟨z, H', I', r', q2 hn H' pt⟩)
/-- the target d[k], or xs[i] -/
def rSetDL (K : Kw) : TSet := fun x y v H Q => rSetL x y v H Q ∨ ∃ a F ks vs k d, x = .ref a ∧ Same F H ∧ Seen K F H (.dct ks vs) x ∧ Seen K F H k y ∧ okey ks k = true ∧ Den K F d v ∧ ks.length < sizeLine ∧ ∀ H', Put K F H a (putD k d ks vs) H' → Q H'
theorem set_dl (hu : X.A.units + 64 < cLine) : PSet X (rSetDL (X.kw G)) := by
  intro pins s σ H x y z v u r Q I rx ry rz h
  rcases h with h | ⟨a, F, ks, vs, k, d, rfl, sm, hd, hk, ok, dz, hl, q⟩
  · exact set_list pins s σ H x y z v u r Q I rx ry rz h
  · obtain rfl : v = Value.ref a := rx
    exact d_put_ok hu I sm hd hk ok ry rz dz hl fun H' s' pt I' => ⟨H', I', q H' pt⟩
end
end Dl

/-! Z1: zip and enumerate over lists, tuples, texts in any mix, as turns of a loop. -/
namespace Dl
open PySem PySem.Spec PyProof.Rows L2

/-- what may be walked: a list, a tuple, a text -/
inductive Kd where
  | l (a : Addr) | t (a : Addr) | s (x : Str) (u : Tok)
namespace Kd
def val : Kd → Value
  | .l a => .ref a
  | .t a => .ref a
  | .s x u => .str x u
def at_ (it : Addr) (i : Nat) (h : Heap) : Kd → Prop
  | .l a => h.IsListIter it a i
  | .t a => h.IsTupleIter it a i
  | .s x u => h.IsStrIter it (strIterType x) x u i
def has (K : PySem.W.Frag) (H : Hp) : Kd → List V → Prop
  | .l a, xs => SqL K H a xs
  | .t a, xs => SqT K H a xs
  | .s x _, xs => xs = x.cps.toList.map fun c => V.str ⟨#[c]⟩
def base : Kd → List Addr
  | .l a => [a]
  | .t a => [a]
  | .s _ _ => []
def fp (it : Addr) (k : Kd) : List Addr := it :: k.base
def obj : Kd → Obj
  | .l a => { cls := .type "list_iterator", data := .fields #[.ref a, .int 0 0] }
  | .t a => { cls := .type "tuple_iterator", data := .fields #[.ref a, .int 0 0] }
  | .s x u => { cls := .type (strIterType x), data := .fields #[.str x u, .int 0 0] }
theorem at_keep {it : Addr} {i : Nat} {h h' : Heap} (k : Kd) (q : k.at_ it i h) (hk : ∀ o, h.get? it = some o → h'.get? it = some o) : k.at_ it i h' := by
  cases k with
  | l a => obtain ⟨o, e, r⟩ := q; exact ⟨o, hk o e, r⟩
  | t a => obtain ⟨o, e, r⟩ := q; exact ⟨o, hk o e, r⟩
  | s x u => obtain ⟨o, e, r⟩ := q; exact ⟨o, hk o e, r⟩
theorem at_obj {it : Addr} {i : Nat} {h : Heap} (k : Kd) (q : k.at_ it i h) : ∃ o, h.get? it = some o ∧ ∀ v, o.data ≠ .cell v := by
  cases k with
  | l a => obtain ⟨o, e, _, r⟩ := q; exact ⟨o, e, fun v z => by rw [r] at z; cases z⟩
  | t a => obtain ⟨o, e, _, r⟩ := q; exact ⟨o, e, fun v z => by rw [r] at z; cases z⟩
  | s x u => obtain ⟨o, e, _, r⟩ := q; exact ⟨o, e, fun v z => by rw [r] at z; cases z⟩
theorem at_new {it : Addr} {h : Heap} (k : Kd) (q : h.get? it = some k.obj) : k.at_ it 0 h := by
  cases k with
  | l a => exact ⟨_, q, rfl, rfl⟩
  | t a => exact ⟨_, q, rfl, rfl⟩
  | s x u => exact ⟨_, q, rfl, rfl⟩
section
variable {X : Cx} {pins : List (Addr × Obj)} {σ : L2.St} {H : Hp} {s : Shared}
theorem vals_back {xs : List V} {its : List Value} (r : Vals xs its) {i : Nat} {v : Value} (e : its[i]? = some v) : ∃ x, xs[i]? = some x ∧ RelV x v := by
  have hi := (List.getElem?_eq_some_iff.mp e).1
  rw [← r.length] at hi
  obtain ⟨u, e2, q⟩ := r.get (List.getElem?_eq_getElem hi)
  rw [e] at e2
  cases e2
  exact ⟨_, List.getElem?_eq_getElem hi, q⟩
theorem draws (I : Inv X pins σ H s) (k : Kd) {xs : List V} (h : k.has X.K H xs) {it : Addr} (hne : it ∉ k.base) {A : Around} (hh : A.handled = none) :
    ∃ P St, Draws X.prog X.w A it (k.fp it) xs.length P St ∧ (∀ i, k.at_ it i s.heap → St i s.heap) ∧ (∀ i h', St i h' → k.at_ it i h') ∧ ∀ i v, P i v → ∃ x, xs[i]? = some x ∧ RelV x v := by
  cases k with
  | l a =>
    obtain ⟨its, rv, p, _⟩ := I.list h
    have hn : a ≠ it := fun z => hne (by subst z; exact List.mem_singleton_self _)
    have e : its.toArray.size = xs.length := by rw [rv.length]; simp
    have D : Draws X.prog X.w A it [it, a] xs.length (fun i v => its.toArray[i]? = some v) (fun i h => h.IsListIter it a i ∧ h.IsList a its.toArray) := by
      rw [← e]
      exact Draws.list hh it a hn its.toArray
    exact ⟨_, _, D, fun i q => ⟨q, p.isList⟩, fun i h' q => q.1, fun i v q => vals_back rv (by simpa using q)⟩
  | t a =>
    obtain ⟨its, rv, p, _⟩ := I.tuple h
    have hn : a ≠ it := fun z => hne (by subst z; exact List.mem_singleton_self _)
    have e : its.toArray.size = xs.length := by rw [rv.length]; simp
    have D : Draws X.prog X.w A it [it, a] xs.length (fun i v => its.toArray[i]? = some v) (fun i h => h.IsTupleIter it a i ∧ h.IsTuple a its.toArray) := by
      rw [← e]
      exact Draws.tuple hh it a hn its.toArray
    exact ⟨_, _, D, fun i q => ⟨q, p⟩, fun i h' q => q.1, fun i v q => vals_back rv (by simpa using q)⟩
  | s x u =>
    have D := Draws.text (prog := X.prog) (w := X.w) hh it x u
    have h : xs = x.cps.toList.map fun c => V.str ⟨#[c]⟩ := h
    subst h
    have e : x.cps.size = (x.cps.toList.map fun c => V.str ⟨#[c]⟩).length := by simp
    rw [e] at D
    refine ⟨_, _, D, fun i q => q, fun i h' q => q, fun i v q => ?_⟩
    obtain ⟨c, t, e, rfl⟩ := q
    exact ⟨V.str ⟨#[c]⟩, by rw [List.getElem?_map, Array.getElem?_toList, e]; rfl, t, rfl⟩
theorem has_inj (I : Inv X pins σ H s) (k : Kd) {xs ys : List V} (h : k.has X.K H xs) (h' : k.has X.K H ys) : xs = ys := by
  cases k with
  | l a => exact I.list_inj h h'
  | t a => exact I.tuple_inj h h'
  | s x u => exact Eq.trans h (Eq.symm h')
theorem begins (I : Inv X pins σ H s) (k : Kd) {xs : List V} (h : k.has X.K H xs) : ∃ G : Heap → Prop, Begins k.val k.obj G ∧ G s.heap ∧ ∀ b ∈ k.base, b < s.heap.objs.size := by
  cases k with
  | l a =>
    obtain ⟨its, rv, p, _⟩ := I.list h
    exact ⟨_, begins_list a its.toArray, p.isList, fun b hb => by rw [List.mem_singleton.mp hb]; exact p.lt⟩
  | t a =>
    obtain ⟨its, rv, p, _⟩ := I.tuple h
    exact ⟨_, begins_tuple a its.toArray, p, fun b hb => by rw [List.mem_singleton.mp hb]; obtain ⟨o, e, _⟩ := id p; exact Heap.lt_size e⟩
  | s x u => exact ⟨_, begins_text x u, trivial, fun b hb => nomatch hb⟩
end
end Kd
/-- zip's turns -/
def Itz2 (K : PySem.W.Frag) (k1 k2 : Kd) : It :=
  ⟨fun i H => ∃ xs ys, k1.has K H xs ∧ k2.has K H ys ∧ i < min xs.length ys.length,
    fun i H v H' => ∃ T x y, v = .ref T ∧ H T = none ∧ H' = upd H T (.tup [x, y]) ∧ (∀ xs, k1.has K H xs → xs[i]? = some x) ∧ ∀ ys, k2.has K H ys → ys[i]? = some y,
    fun i H => ∃ xs ys, k1.has K H xs ∧ k2.has K H ys ∧ i = min xs.length ys.length⟩
theorem turn_zip2 {P : Program} {w : World} {K : PySem.W.Frag} {elts : List Expr} {kk : Nat} {tpos : Pos} {k1 k2 : Kd} {z TI TO i1 i2 : Addr} (S : ZipSep2 z TI TO i1 i2 (k1.fp i1) (k2.fp i2)) (n1 : i1 ∉ k1.base) (n2 : i2 ∉ k2.base) :
    Turn P w K (.Tuple elts kk tpos) (Itz2 K k1 k2) [z, TI, TO, i1, i2] z (fun i h => IsZip h z TI TO .none ∧ IsTupOf2 h TI (.ref i1) (.ref i2) ∧ (∃ x y, IsTupOf2 h TO x y) ∧ k1.at_ i1 i h ∧ k2.at_ i2 i h) where
  mem := List.mem_cons_self
  obj := fun i h st c hc => by
    obtain ⟨g1, g2, ⟨x, y, g3⟩, g4, g5⟩ := st
    simp only [List.mem_cons, List.not_mem_nil, or_false] at hc
    rcases hc with rfl | rfl | rfl | rfl | rfl
    · exact ⟨_, g1, fun v q => nomatch q⟩
    · exact ⟨_, g2, fun v q => nomatch q⟩
    · exact ⟨_, g3, fun v q => nomatch q⟩
    · exact k1.at_obj g4
    · exact k2.at_obj g5
  keep := fun i h h' st k => by
    obtain ⟨g1, g2, ⟨x, y, g3⟩, g4, g5⟩ := st
    exact ⟨k z (by simp) _ g1, k TI (by simp) _ g2, ⟨x, y, k TO (by simp) _ g3⟩, k1.at_keep g4 fun o q => k i1 (by simp) o q, k2.at_keep g5 fun o q => k i2 (by simp) o q⟩
  item := by
    intro X hP hw hK hc i pins s σ H E I hf st hg
    subst hP hw hK
    obtain ⟨xs, ys, q1, q2, hi⟩ := hg
    obtain ⟨g1, g2, g3, g4, g5⟩ := st
    obtain ⟨P1, S1, D1, a1, b1, r1⟩ := k1.draws I q1 n1 (A := X.A.in1) (I.ok.hd hc)
    obtain ⟨P2, S2, D2, a2, b2, r2⟩ := k2.draws I q2 n2 (A := X.A.in1) (I.ok.hd hc)
    have G := GoesN.zip2 (elts := elts) (x1 := kk) (pos := tpos) S D1 D2
    refine G.goes i s _ E hi ⟨g1, g2, g3, a1 i g4, a2 i g5⟩ fun v h' tk hY st' hk htk => ?_
    obtain ⟨T, u1, u2, rfl, hT, p1, p2, hT2⟩ := hY
    obtain ⟨x, e1, rx⟩ := r1 i u1 p1
    obtain ⟨y, e2, ry⟩ := r2 i u2 p2
    obtain ⟨f1, f2, f3, f4, f5⟩ := st'
    have new : ObjOk X.prog X.w (upd H T (.tup [x, y])) h' T (.tup [x, y]) := ⟨by show 2 ≤ sizeLine; decide, [u1, u2], .cons rx (.cons ry .nil), hT2⟩
    have I1 := I.turnedNew (t' := tk) (ch := [z, TI, TO, i1, i2]) (fun c o hb q => hk c o (fun m => hb (by simp only [List.mem_cons, List.not_mem_nil, or_false] at m ⊢; rcases m with m | m | m | m <;> simp [m])) q) hf hT new
    refine ⟨.ref T, _, I1, rfl, ⟨T, x, y, rfl, I.hok.fresh hT, rfl, fun l hl => by rw [k1.has_inj I hl q1]; exact e1, fun l hl => by rw [k2.has_inj I hl q2]; exact e2⟩, ⟨f1, f2, f3, b1 _ _ f4, b2 _ _ f5⟩, fun c hcm => ?_⟩
    have hlt : c < s.heap.objs.size := by
      simp only [List.mem_cons, List.not_mem_nil, or_false] at hcm
      rcases hcm with rfl | rfl | rfl | rfl | rfl
      · exact Heap.lt_size g1
      · exact Heap.lt_size g2
      · obtain ⟨x, y, g3⟩ := g3; exact Heap.lt_size g3
      · obtain ⟨o, e, _⟩ := k1.at_obj g4; exact Heap.lt_size e
      · obtain ⟨o, e, _⟩ := k2.at_obj g5; exact Heap.lt_size e
    rw [upd_ne (Nat.ne_of_lt (Nat.lt_of_lt_of_le hlt hT))]
    exact (hf c hcm).1
  done := by
    intro X hP hw hK hc i pins s σ H E I hf st hg
    subst hP hw hK
    obtain ⟨xs, ys, q1, q2, rfl⟩ := hg
    obtain ⟨g1, g2, g3, g4, g5⟩ := st
    obtain ⟨P1, S1, D1, a1, b1, r1⟩ := k1.draws I q1 n1 (A := X.A.in1) (I.ok.hd hc)
    obtain ⟨P2, S2, D2, a2, b2, r2⟩ := k2.draws I q2 n2 (A := X.A.in1) (I.ok.hd hc)
    have G := GoesN.zip2 (elts := elts) (x1 := kk) (pos := tpos) S D1 D2
    refine G.stops s (fun s1 => Inv X pins σ H s1) E ⟨g1, g2, g3, a1 _ g4, a2 _ g5⟩ fun h' tk hk htk => ?_
    exact I.turnedL (t' := tk) (ch := [z, TI, TO, i1, i2]) (fun c o hb q => hk c o (fun m => hb (by simp only [List.mem_cons, List.not_mem_nil, or_false] at m ⊢; rcases m with m | m | m | m <;> simp [m])) q) hf
  self := fun A i s Q E st h => wpAny_pyIter_zip st.1 h
/-- enumerate's turns -/
def Ite2 (K : PySem.W.Frag) (k : Kd) : It :=
  ⟨fun i H => ∃ xs, k.has K H xs ∧ i < xs.length,
    fun i H v H' => ∃ T x, v = .ref T ∧ H T = none ∧ H' = upd H T (.tup [.int (i : Nat), x]) ∧ ∀ xs, k.has K H xs → xs[i]? = some x,
    fun i H => ∃ xs, k.has K H xs ∧ i = xs.length⟩
theorem turn_enum2 {P : Program} {w : World} {K : PySem.W.Frag} {elts : List Expr} {kk : Nat} {tpos : Pos} {k : Kd} {e it : Addr} (ne : e ≠ it) (nf : e ∉ k.fp it) (n1 : it ∉ k.base) :
    Turn P w K (.Tuple elts kk tpos) (Ite2 K k) [e, it] e (fun i h => (∃ old, IsEnum h e it (0 + ((i : Nat) : Int)) old) ∧ k.at_ it i h) where
  mem := List.mem_cons_self
  obj := fun i h st c hc => by
    obtain ⟨⟨old, g1⟩, g2⟩ := st
    simp only [List.mem_cons, List.not_mem_nil, or_false] at hc
    rcases hc with rfl | rfl
    · exact ⟨_, g1, fun v q => nomatch q⟩
    · exact k.at_obj g2
  keep := fun i h h' st q => by
    obtain ⟨⟨old, g1⟩, g2⟩ := st
    exact ⟨⟨old, q e (by simp) _ g1⟩, k.at_keep g2 fun o z => q it (by simp) o z⟩
  item := by
    intro X hP hw hK hc i pins s σ H E I hf st hg
    subst hP hw hK
    obtain ⟨xs, q1, hi⟩ := hg
    obtain ⟨g1, g2⟩ := st
    obtain ⟨P1, S1, D1, a1, b1, r1⟩ := k.draws I q1 n1 (A := X.A.in1) (I.ok.hd hc)
    have G := GoesN.enumFrom (elts := elts) (x1 := kk) (pos := tpos) 0 D1 e ne nf List.mem_cons_self
    refine G.goes i s _ E hi ⟨g1, a1 i g2⟩ fun v h' tk hY st' hk htk => ?_
    obtain ⟨T, t, u1, rfl, hT, p1, hT2⟩ := hY
    obtain ⟨x, e1, rx⟩ := r1 i u1 p1
    obtain ⟨f1, f2⟩ := st'
    have rI : RelV (.int ((i : Nat) : Int)) (.int (0 + ((i : Nat) : Int)) t) := ⟨t, by rw [Int.zero_add]⟩
    have new : ObjOk X.prog X.w (upd H T (.tup [.int (i : Nat), x])) h' T (.tup [.int (i : Nat), x]) := ⟨by show 2 ≤ sizeLine; decide, [.int (0 + ((i : Nat) : Int)) t, u1], .cons rI (.cons rx .nil), hT2⟩
    have I1 := I.turnedNew (t' := tk) (ch := [e, it]) (fun c o hb q => hk c o hb q) hf hT new
    refine ⟨.ref T, _, I1, rfl, ⟨T, x, rfl, I.hok.fresh hT, rfl, fun l hl => by rw [k.has_inj I hl q1]; exact e1⟩, ⟨f1, b1 _ _ f2⟩, fun c hcm => ?_⟩
    have hlt : c < s.heap.objs.size := by
      simp only [List.mem_cons, List.not_mem_nil, or_false] at hcm
      rcases hcm with rfl | rfl
      · obtain ⟨old, g1⟩ := g1; exact Heap.lt_size g1
      · obtain ⟨o, e, _⟩ := k.at_obj g2; exact Heap.lt_size e
    rw [upd_ne (Nat.ne_of_lt (Nat.lt_of_lt_of_le hlt hT))]
    exact (hf c hcm).1
  done := by
    intro X hP hw hK hc i pins s σ H E I hf st hg
    subst hP hw hK
    obtain ⟨xs, q1, rfl⟩ := hg
    obtain ⟨g1, g2⟩ := st
    obtain ⟨P1, S1, D1, a1, b1, r1⟩ := k.draws I q1 n1 (A := X.A.in1) (I.ok.hd hc)
    have G := GoesN.enumFrom (elts := elts) (x1 := kk) (pos := tpos) 0 D1 e ne nf List.mem_cons_self
    refine G.stops s (fun s1 => Inv X pins σ H s1) E ⟨g1, a1 _ g2⟩ fun h' tk hk htk => ?_
    exact I.turnedL (t' := tk) (ch := [e, it]) (fun c o hb q => hk c o hb q) hf
  self := fun A i s Q E st h => let ⟨⟨_, he⟩, _⟩ := st; wpAny_pyIter_enum he h
/-- enumerate(v) makes two new cells -/
theorem meets_enum1 {v : Value} {o : Obj} {G : Heap → Prop} (B : Begins v o G) :
    Meets (Builtin.«enumerate.__new__» ⟨[.type "enumerate", v], []⟩) (fun _ R s => G s.heap ∧
      R (.ok (.ret (.ref (s.heap.push o).objs.size))) { s with heap := (s.heap.push o).push { cls := .type "enumerate", data := .fields #[.none, .bool false, .ref s.heap.objs.size, rawInt 0, .none, .none] } }) :=
  .of_wp fun prog w A R s h => by
    obtain ⟨hp, gs, dr, tk, os⟩ := s
    obtain ⟨h1, h⟩ := h
    have sub := sub_enumerate
    have it1 : ∀ {A' : Around} {E : Value → Shared → Prop} {Q : Value → Shared → Prop}, Q (.ref hp.objs.size) ⟨hp.push o, gs, dr, tk, os⟩ → wpAny (model prog w) A' (pyIter v) Q E ⟨hp, gs, dr, tk, os⟩ := fun z => B.iter prog w _ _ ⟨hp, gs, dr, tk, os⟩ _ h1 z
    (wp_walk using it1); (refine wpAny_stack_any fun _ => wpAny_pure ?_); split
    · (rename_i c _ _ _ _ _); cases (c == Value.type "enumerate") <;> ((wp_walk using it1); exact ⟨_, rfl, h⟩)
    · (wp_walk using it1); exact ⟨_, rfl, h⟩
theorem call_enum1 {prog : Program} {w : World} {A : Around} {E : Value → Shared → Prop} {s : Shared} {v : Value} {o : Obj} {G : Heap → Prop} {Q : Value → Shared → Prop} (B : Begins v o G) (h1 : G s.heap)
    (h : ∀ h', IsEnum h' (s.heap.objs.size + 1) s.heap.objs.size 0 .none → h'.get? s.heap.objs.size = some o → (∀ b u, s.heap.get? b = some u → h'.get? b = some u) → Q (.ref (s.heap.objs.size + 1)) { s with heap := h' }) :
    wpAny (model prog w) A (call (.type "enumerate") [v]) Q E s := by
  refine callType_new F.called_enumerate (by decide) (F.typeCall_enumerate_1 _) (F.newCall_enumerate_1 _) (fun z => F.args_object_init_2 z _) F.entry_enumerate_new (meets_enum1 B) ⟨h1, ?_⟩
  have hz : (s.heap.push o).objs.size = s.heap.objs.size + 1 := Heap.size_push ..
  have g1 := Heap.get?_push_size (s.heap.push o) (o := { cls := .type "enumerate", data := .fields #[.none, .bool false, .ref s.heap.objs.size, rawInt 0, .none, .none] }) rfl
  show _ ∧ _
  rw [hz] at g1 ⊢
  exact ⟨⟨_, g1, rfl⟩, h _ g1 (Heap.get?_push_of_some _ (Heap.get?_push_size _ B.free)) fun b u x => Heap.get?_push_of_some _ (Heap.get?_push_of_some _ x)⟩
/-- the value that k walks -/
def Kd.v : Kd → V
  | .l a => .ref a
  | .t a => .ref a
  | .s x _ => .str x
theorem Kd.rel (q : Kd) {u : Value} (r : RelV q.v u) : ∃ k : Kd, k.val = u ∧ ∀ K H, Kd.has K H k = Kd.has K H q := by
  cases q with
  | l a => cases r; exact ⟨.l a, rfl, fun _ _ => rfl⟩
  | t a => cases r; exact ⟨.t a, rfl, fun _ _ => rfl⟩
  | s x t =>
    obtain ⟨t', rfl⟩ := r
    exact ⟨.s x t', rfl, fun _ _ => rfl⟩
def iZip2 (K : PySem.W.Frag) (ta : TA) : TI := fun σ H R => ta σ H fun vs H1 => ∃ (v w : Kd) (xs ys : List V), vs = [v.v, w.v] ∧ v.has K H1 xs ∧ w.has K H1 ys ∧ R (Itz2 K v w) H1
theorem pi_zip2 {X : Cx} {e e2 : Expr} {ta : TA} {p pos tpos : Pos} {elts : List Expr} {kk : Nat} (hg : Gl X "zip") (hm : X.mg "zip" = none) (ha : PA X [e, e2] ta)
    (hs : starEach [e, e2] X.env = (false, eval e X.env) :: starEach [e2] X.env) (hpl : (backTo pos (starEach [e2] X.env)).any (·.1) = false) :
    PI X (.Tuple elts kk tpos) (.Call (.Name "zip" p) [e, e2] [] pos) (iZip2 X.K ta) := by
  refine ⟨fun pins s σ H R I h => ?_⟩
  refine Call_ (ld_blt I hg hm PyProof.Rows.boot_zip (PyProof.Rows.callWith_type1 (thn (ha.run pos pins s σ H _ I h) fun us s1 ⟨vs, H1, I1, r1, q1⟩ => ?_) hs hpl))
  obtain ⟨v, w, xs, ys, rfl, hv, hw, q⟩ := q1
  cases r1 with
  | cons r rr =>
    cases rr with
    | cons r' rr =>
      cases rr
      obtain ⟨k1, rfl, e1⟩ := v.rel r
      obtain ⟨k2, rfl, e2⟩ := w.rel r'
      have hk1 : k1.has X.K H1 xs := by rw [e1]; exact hv
      have hk2 : k2.has X.K H1 ys := by rw [e2]; exact hw
      have q : R (Itz2 X.K k1 k2) H1 := by simp only [Itz2, e1, e2]; exact q
      obtain ⟨G1, B1, g1, l1⟩ := k1.begins I1 hk1
      obtain ⟨G2, B2, g2, l2⟩ := k2.begins I1 hk2
      refine zip_begins2 B1 B2 g1 g2 fun h' z1 z2 z3 z4 z5 _ hk => wpAny_pyIter_zip z1 ?_
      have I2 : Inv X pins σ H1 { s1 with heap := h' } := I1.kept (t' := s1.toks) hk
      refine ⟨s1.heap.objs.size + 4, [s1.heap.objs.size + 4, s1.heap.objs.size + 2, s1.heap.objs.size + 3, s1.heap.objs.size, s1.heap.objs.size + 1], _, _, H1, rfl, I2,
        turn_zip2 (k1 := k1) (k2 := k2) (zip_sep2 l1 l2) (fun z => absurd (l1 _ z) (Nat.lt_irrefl _)) (fun z => absurd (l2 _ z) (Nat.not_lt.mpr (Nat.le_add_right _ 1))), ⟨z1, z2, ⟨_, _, z3⟩, k1.at_new z4, k2.at_new z5⟩, fun c hc => ?_, q⟩
      have hle : s1.heap.objs.size ≤ c := by
        simp only [List.mem_cons, List.not_mem_nil, or_false] at hc
        rcases hc with rfl | rfl | rfl | rfl | rfl
        · exact Nat.le_add_right _ _
        · exact Nat.le_add_right _ _
        · exact Nat.le_add_right _ _
        · exact Nat.le_refl _
        · exact Nat.le_add_right _ _
      exact I1.fpOk hle (I1.hok.fresh hle)
def iEnum2 (K : PySem.W.Frag) (ta : TA) : TI := fun σ H R => ta σ H fun vs H1 => ∃ (v : Kd) (xs : List V), vs = [v.v] ∧ v.has K H1 xs ∧ R (Ite2 K v) H1
theorem pi_enum2 {X : Cx} {e : Expr} {ta : TA} {p pos tpos : Pos} {elts : List Expr} {kk : Nat} (hg : Gl X "enumerate") (hm : X.mg "enumerate" = none) (ha : PA X [e] ta) (hs : starEach [e] X.env = [(false, eval e X.env)]) :
    PI X (.Tuple elts kk tpos) (.Call (.Name "enumerate" p) [e] [] pos) (iEnum2 X.K ta) := by
  refine ⟨fun pins s σ H R I h => ?_⟩
  refine Call_ (ld_blt I hg hm boot_enumerate (PyProof.Rows.callWith_type1 (thn (ha.run pos pins s σ H _ I h) fun us s1 ⟨vs, H1, I1, r1, q1⟩ => ?_) hs rfl))
  obtain ⟨v, xs, rfl, hv, q⟩ := q1
  cases r1 with
  | cons r rr =>
    cases rr
    obtain ⟨k1, rfl, e1⟩ := v.rel r
    have hk1 : k1.has X.K H1 xs := by rw [e1]; exact hv
    have q : R (Ite2 X.K k1) H1 := by simp only [Ite2, e1]; exact q
    obtain ⟨G1, B1, g1, l1⟩ := k1.begins I1 hk1
    refine call_enum1 B1 g1 fun h' z1 z2 hk => wpAny_pyIter_enum z1 ?_
    have I2 : Inv X pins σ H1 { s1 with heap := h' } := I1.kept (t' := s1.toks) hk
    refine ⟨s1.heap.objs.size + 1, [s1.heap.objs.size + 1, s1.heap.objs.size], _, _, H1, rfl, I2, turn_enum2 (k := k1) (Nat.succ_ne_self _) (fun z => ?_) (fun z => absurd (l1 _ z) (Nat.lt_irrefl _)), ⟨⟨.none, z1⟩, k1.at_new z2⟩, fun c hc => ?_, q⟩
    · rcases List.mem_cons.mp z with z | z
      · exact Nat.succ_ne_self _ z
      · exact absurd (l1 _ z) (Nat.not_lt.mpr (Nat.le_add_right _ 1))
    · have hle : s1.heap.objs.size ≤ c := by
        simp only [List.mem_cons, List.not_mem_nil, or_false] at hc
        rcases hc with rfl | rfl
        · exact Nat.le_add_right _ _
        · exact Nat.le_refl _
      exact I1.fpOk hle (I1.hok.fresh hle)
end Dl

/-! Z2: sets made of a list: set(xs), len(set(xs)), sorted(set(xs)); keys of one kind. -/
namespace Dl
open PySem PySem.Spec PyProof.Rows L2

def addK {K : Type} [DecidableEq K] (k : K) (ks : List K) : List K := if k ∈ ks then ks else ks ++ [k]
/-- without what comes again -/
def dd {K : Type} [DecidableEq K] (xs : List K) : List K := xs.foldl (fun ks k => addK k ks) []
section
variable {K : Type} [DecidableEq K]
theorem addK_len (k : K) (ks : List K) : (addK k ks).length ≤ ks.length + 1 := by
  unfold addK
  split
  · omega
  · rw [List.length_append]; exact Nat.le_refl _
theorem addK_mem {k x : K} {ks : List K} : x ∈ addK k ks ↔ x = k ∨ x ∈ ks := by
  unfold addK
  split
  · rename_i h
    exact ⟨.inr, fun z => z.elim (fun e => e ▸ h) id⟩
  · rw [List.mem_append, List.mem_singleton]
    exact Or.comm
theorem addK_nodup {k : K} {ks : List K} (h : ks.Nodup) : (addK k ks).Nodup := by
  unfold addK
  split
  · exact h
  · rename_i n
    refine List.nodup_append.mpr ⟨h, by simp, fun a ha b hb e => n ?_⟩
    rw [← List.mem_singleton.mp hb, ← e]
    exact ha
theorem dd_snoc (xs : List K) (k : K) : dd (xs ++ [k]) = addK k (dd xs) := by
  unfold dd
  rw [List.foldl_append]
  rfl
theorem dd_take {xs : List K} {i : Nat} {k : K} (h : xs[i]? = some k) : dd (xs.take (i + 1)) = addK k (dd (xs.take i)) := by
  rw [List.take_add_one, h]
  exact dd_snoc _ _
theorem dd_mem : ∀ (xs : List K) {x : K}, x ∈ dd xs ↔ x ∈ xs := by
  have main : ∀ (xs acc : List K) (x : K), x ∈ xs.foldl (fun ks k => addK k ks) acc ↔ x ∈ acc ∨ x ∈ xs := by
    intro xs
    induction xs with
    | nil => intro acc x; simp
    | cons y ys ih =>
      intro acc x
      rw [List.foldl_cons, ih, addK_mem, List.mem_cons]
      constructor
      · rintro ((h | h) | h)
        · exact .inr (.inl h)
        · exact .inl h
        · exact .inr (.inr h)
      · rintro (h | h | h)
        · exact .inl (.inr h)
        · exact .inl (.inl h)
        · exact .inr h
  intro xs x
  unfold dd
  rw [main]
  simp
theorem dd_nodup (xs : List K) : (dd xs).Nodup := by
  have main : ∀ (xs acc : List K), acc.Nodup → (xs.foldl (fun ks k => addK k ks) acc).Nodup := by
    intro xs
    induction xs with
    | nil => intro acc h; exact h
    | cons y ys ih => intro acc h; exact ih _ (addK_nodup h)
  exact main xs [] List.nodup_nil
theorem dd_len (xs : List K) : (dd xs).length ≤ xs.length := by
  have main : ∀ (xs acc : List K), (xs.foldl (fun ks k => addK k ks) acc).length ≤ acc.length + xs.length := by
    intro xs
    induction xs with
    | nil => intro acc; exact Nat.le_refl _
    | cons y ys ih =>
      intro acc
      have h1 := ih (addK y acc)
      have h2 := addK_len y acc
      rw [List.foldl_cons, List.length_cons]
      omega
  have := main xs []
  rwa [List.length_nil, Nat.zero_add] at this
end

section
variable {prog : Program} {w : World} {K : Type} [DecidableEq K] (knd : PySem.KeyKind prog w K) (kf : Value → K)
/-- the set at a holds just ks; it can be walked -/
def SetG (h : Heap) (a : Addr) (ks : List K) : Prop := ∃ o es ep t, h.get? a = some o ∧ o.ExactSet ∧ o.data = .set es ep t ∧ ElemsOf knd es.toList ∧ (es.toList.map fun e => kf e.2).Perm ks ∧ ks.Nodup ∧
  es.size < scanBound ∧ t.fits es.size = true ∧ Ris t.place.toList ∧ (w.params.followText "set-order" = true ∨ t.led = true)
variable {knd kf}
theorem SetG.at {h h' : Heap} {a : Addr} {ks : List K} (R : SetG knd kf h a ks) (k : ∀ o, h.get? a = some o → h'.get? a = some o) : SetG knd kf h' a ks := by
  obtain ⟨o, es, ep, t, ho, r⟩ := R
  exact ⟨o, es, ep, t, k o ho, r⟩
theorem SetG.len {h : Heap} {a : Addr} {ks : List K} (R : SetG knd kf h a ks) : ∃ o es ep t, h.get? a = some o ∧ o.ExactSet ∧ o.data = .set es ep t ∧ es.size = ks.length := by
  obtain ⟨o, es, ep, t, ho, hx, hd, _, pm, _⟩ := R
  refine ⟨o, es, ep, t, ho, hx, hd, ?_⟩
  rw [← pm.length_eq, List.length_map, Array.length_toList]
variable {A : Around} {E : Value → Shared → Prop} {s : Shared} {a : Addr} {ks : List K}
theorem SetG.size {h : Heap} (R : SetG knd kf h a ks) : ks.length < scanBound := by
  obtain ⟨o, es, ep, t, _, _, _, _, pm, _, sb, _⟩ := R
  rw [← pm.length_eq, List.length_map, Array.length_toList]
  exact sb
theorem addTailG {g : Bool → Sem Unit} (quiet : ∀ (b : Bool) (s₁ : Shared) (Q' : Unit → Shared → Prop), Q' () s₁ → wpAny (model prog w) A (g b) Q' E s₁)
    {o : Obj} {es : Array (Int × Value)} {ep : Nat} {t : SetTable} (ho : s.heap.get? a = some o) (hx : o.ExactSet) (hd : o.data = .set es ep t)
    {fs : Array (Int × Value)} {u : SetTable} (el : ElemsOf knd fs.toList) (pm : (fs.toList.map fun e => kf e.2).Perm ks) (nd : ks.Nodup) (sb : fs.size < scanBound) (ft : u.fits fs.size = true) (rs : Ris u.place.toList)
    (ld : w.params.followText "set-order" = true ∨ u.led = true) {dm : Bool} {R : Option Bool → Shared → Prop} (fin : ∀ h', Heap.SameBut a s.heap h' → SetG knd kf h' a ks → R (some true) { s with heap := h' }) :
    wpAny (model prog w) A (do
        storeSet a fs u
        if (!dm && u.tooFull) = true then do
            g (relayAll u fs (SetTable.grown fs.size)).2.2
            storeSet a (relayAll u fs (SetTable.grown fs.size)).1 (relayAll u fs (SetTable.grown fs.size)).2.1
            pure (some true)
          else pure (some true)) R E s := by
  refine wpAny_bind (wpAny_storeSet_of ho hd ?_ (fits_of_scanBound sb))
  have k1 := store_at (es' := fs) (t' := u) ho hd
  have b1 := Heap.SameBut.update s.heap a (Obj.putSet fs u)
  split
  · have r1 := relayAll_perm u fs (SetTable.grown fs.size)
    have r2 := relayAll_fits u fs (SetTable.grown fs.size)
    have r3 := relayAll_ris u fs (SetTable.grown fs.size)
    have r4 := relayAll_led u fs (SetTable.grown fs.size)
    generalize relayAll u fs (SetTable.grown fs.size) = Y at r1 r2 r3 r4 ⊢
    obtain ⟨gs, v, gave⟩ := Y
    dsimp only at r1 r2 r3 r4 ⊢
    have sz : gs.size = fs.size := by rw [← Array.length_toList, r1.length_eq, Array.length_toList]
    refine wpAny_bind (quiet _ _ _ ?_)
    refine wpAny_bind (wpAny_storeSet_of k1 rfl ?_ (fits_of_scanBound (by rw [sz]; exact sb)))
    have k2 := store_at (es' := gs) (t' := v) k1 rfl
    exact wpAny_pure (fin _ (b1.trans (Heap.SameBut.update _ a _)) ⟨_, gs, _, v, k2, hx, rfl, el.perm r1, (r1.map _).trans pm, nd, by rw [sz]; exact sb, r2, r3, ld.imp id fun z => by rw [r4]; exact z⟩)
  · exact wpAny_pure (fin _ b1 ⟨_, fs, _, u, k1, hx, rfl, el, pm, nd, sb, ft, rs, ld⟩)
theorem addG (hkf : ∀ k v, knd.is k v = true → kf v = k) {k : K} {v : Value} {Q : Bool → Shared → Prop} (R : SetG knd kf s.heap a ks) (room : ks.length + 1 < scanBound) (key : knd.is k v = true) (sc : v.scannable = true)
    (fin : ∀ b h', Heap.SameBut a s.heap h' → SetG knd kf h' a (addK k ks) → Q b { s with heap := h' }) : wpAny (model prog w) A (setAddHashed a v (knd.hash k)) Q E s := by
  obtain ⟨o, es, ep, t, ho, hx, hd, el, pm, nd, sb, ft, rs, ld⟩ := id R
  unfold setAddHashed setAddHashedIn
  refine wpAny_holding (wpAny_bind (wpAny_setState_of ho hd ft ?_))
  dsimp only
  rw [byScan_of sc sb el]
  simp only [↓reduceIte]
  unfold setAddByScan
  refine wpAny_bind (wpAny_bind (wpAny_rule ?_))
  refine wpAny_bind (wpAny_setScan_of key ho hd ft el ?_)
  have mem : k ∈ ks ↔ ∃ e ∈ es.toList, knd.is k e.2 = true := by
    rw [← pm.mem_iff, List.mem_map]
    constructor
    · rintro ⟨e, he, q⟩
      obtain ⟨⟨k', hk', _⟩, _⟩ := el e he
      rw [hkf _ _ hk'] at q
      exact ⟨e, he, q ▸ hk'⟩
    · rintro ⟨e, he, q⟩
      exact ⟨e, he, hkf _ _ q⟩
  cases fi : List.findIdx? (fun e => knd.is k e.2) es.toList with
  | some j =>
    dsimp only
    obtain ⟨hj, pj, _⟩ := List.findIdx?_eq_some_iff_getElem.mp fi
    have hm : k ∈ ks := mem.mpr ⟨es.toList[j], List.getElem_mem hj, pj⟩
    refine wpAny_pure (wpAny_pure ?_)
    exact fin _ s.heap (Heap.SameBut.refl a s.heap) (by unfold addK; rw [if_pos hm]; exact R)
  | none =>
    dsimp only
    have hm : k ∉ ks := fun z => by
      obtain ⟨e, he, q⟩ := mem.mp z
      have c := List.findIdx?_eq_none_iff.mp fi e he
      rw [q] at c
      cases c
    have quiet : ∀ (b : Bool) {s₁ : Shared} {Q' : Unit → Shared → Prop}, Q' () s₁ → wpAny (model prog w) A (match b with | true => rule "set.scan.the-table-gave-way" | false => pure ()) Q' E s₁ := by
      intro b s₁ Q' q
      cases b
      · exact wpAny_pure q
      · exact wpAny_rule q
    have p1 := layNew_perm t es (knd.hash k) v
    have p2 := layNew_fits t es (knd.hash k) v
    have p3 := layNew_ris t es (knd.hash k) v rs
    have p4 := layNew_led t es (knd.hash k) v
    generalize layNew t es (knd.hash k) v = Y at p1 p2 p3 p4 ⊢
    obtain ⟨fs, u, dm, gave⟩ := Y
    dsimp only at p1 p2 p3 p4 ⊢
    rw [Array.toList_push] at p1
    have el1 : ElemsOf knd fs.toList := fun e he => by
      rcases List.mem_append.mp (p1.mem_iff.mp he) with z | z
      · exact el e z
      · rw [List.mem_singleton.mp z]
        exact ⟨⟨k, key, rfl⟩, sc⟩
    have pm1 : (fs.toList.map fun e => kf e.2).Perm (addK k ks) := by
      unfold addK
      rw [if_neg hm]
      refine (p1.map _).trans ?_
      rw [List.map_append, List.map_singleton, hkf _ _ key]
      exact pm.append_right _
    have sz : fs.size = es.size + 1 := by rw [← Array.length_toList, p1.length_eq, List.length_append, Array.length_toList]; rfl
    have szk : es.size = ks.length := by rw [← pm.length_eq, List.length_map, Array.length_toList]
    have sb1 : fs.size < scanBound := by rw [sz, szk]; exact room
    have ld1 : w.params.followText "set-order" = true ∨ u.led = true := ld.imp id fun z => by rw [p4]; exact z
    refine wpAny_bind (quiet _ ?_)
    split
    · refine wpAny_bind ?_
      rw [hashByValue_scannable 8 sc]
      refine wpAny_pure ?_
      refine addTailG (knd := knd) (kf := kf) (ks := addK k ks) ?_ ho hx hd el1 pm1 (addK_nodup nd) sb1 ?_ ?_ ?_ ?_
      · intro b s₁ Q' q
        cases b
        · exact wpAny_pure q
        · exact wpAny_rule q
      · first | (split <;> first | exact p2 | exact SetTable.fits_plain_off p2) | exact p2
      · first | (split <;> exact p3) | exact p3
      · first | (split <;> exact ld1) | exact ld1
      · intro h' b r
        dsimp only
        exact wpAny_pure (fin _ h' b r)
    · refine wpAny_bind (wpAny_pure ?_)
      simp only [↓reduceIte]
      refine addTailG (knd := knd) (kf := kf) (ks := addK k ks) ?_ ho hx hd el1 pm1 (addK_nodup nd) sb1 p2 p3 ld1 ?_
      · intro b s₁ Q' q
        cases b
        · exact wpAny_pure q
        · exact wpAny_rule q
      · intro h' b r
        dsimp only
        exact wpAny_pure (fin _ h' b r)
end
section
variable {prog : Program} {w : World} {K : Type} [DecidableEq K] {knd : PySem.KeyKind prog w K} {kf : Value → K}
variable {A : Around} {R : Result → Shared → Prop} {I : Addr} {fp wr : List Addr} {G : Array GenState → Array GenState → Prop} {n : Nat} {P : Nat → Value → Prop} {St : Nat → Shared → Prop}
theorem loopG (hkf : ∀ k v, knd.is k v = true → kf v = k) (W : WalksS prog w A.in1 I fp wr G n P St) (S : Addr) (nS : S ∉ fp) (xs : List K) (hl : xs.length = n) (hb : n + 1 < scanBound)
    (hv : ∀ i v, P i v → ∃ k, xs[i]? = some k ∧ knd.is k v = true ∧ v.scannable = true) :
    ∀ (m i : Nat) (s : Shared), n - i = m → i ≤ n → St i s → SetG knd kf s.heap S (dd (xs.take i)) →
      (∀ s', Moved (S :: wr) G s s' → SetG knd kf s'.heap S (dd xs) → R (.ok (.ret .none)) s') →
      codeAny (model prog w) A (.builtin "set.update.loop" ⟨[.ref S, .ref I], []⟩) R s := by
  have nw : S ∉ wr := fun z => nS (W.sub _ z)
  have up : ∀ b ∈ wr, b ∈ S :: wr := fun b z => List.mem_cons_of_mem _ z
  intro m
  induction m with
  | zero =>
    intro i s hm hi st q fin
    have e : i = n := by omega
    subst e
    rw [← hl, List.take_length] at q
    refine codeAny_builtin PyProof.Rows.F.entry_set_update_loop ?_
    (rw [Around.under_plainId PyProof.Rows.F.plain_set_update_loop _]); (show wpAny _ A.in1 (pyNext (.ref I) >>= _) _ _ s)
    refine wpAny_bind (W.done s _ _ st fun s' mv => ?_)
    exact wpAny_pure (fin s' (mv.mono up) (q.at fun o e => mv.heap S _ nw e))
  | succ m ih =>
    intro i s hm hi st q fin
    have lt : i < n := by omega
    refine codeAny_builtin PyProof.Rows.F.entry_set_update_loop ?_
    (rw [Around.under_plainId PyProof.Rows.F.plain_set_update_loop _]); (show wpAny _ A.in1 (pyNext (.ref I) >>= _) _ _ s)
    refine wpAny_bind (W.item i s _ _ lt st fun v s' hP st' mv => ?_)
    obtain ⟨k, hk, key, sc⟩ := hv i v hP
    have q' : SetG knd kf s'.heap S (dd (xs.take i)) := q.at fun o e => mv.heap S _ nw e
    show wpAny _ A.in1 (holding [v] (setAdd S v) >>= _) _ _ s'
    refine wpAny_bind (wpAny_holding ?_)
    (unfold setAdd); (refine wpAny_holding (wpAny_bind (knd.pyHash (k := k) key ?_)))
    have room : (dd (xs.take i)).length + 1 < scanBound := by
      have h1 := dd_len (xs.take i)
      have h2 := List.length_take_le i xs
      omega
    refine addG (s := { s' with toks := s'.toks + 1 }) hkf q' room key sc fun b h' sb r => ?_
    rw [← dd_take hk] at r
    refine wpAny_pure ⟨plainId_quiet PyProof.Rows.F.plain_set_update_loop _, ih (i + 1) _ (by omega) lt (W.frame _ s' _ _ st' (Nat.le_succ _) fun c hc o e => ?_) r fun s2 mv2 q2 => ?_⟩
    · rw [sb.2 c (fun z : c = S => nS (z ▸ hc))]
      exact e
    · refine fin s2 (Moved.trans W.gtrans ((mv.mono up).then_heap (Nat.le_succ _) fun c o hc e => ?_) mv2) q2
      rw [sb.2 c (fun z : c = S => hc (by rw [z]; exact List.mem_cons_self))]
      exact e
end
section
variable {prog : Program} {w : World} {K : Type} [DecidableEq K] {knd : PySem.KeyKind prog w K} {kf : Value → K} {A : Around} {E : Value → Shared → Prop} {s : Shared}
/-- a new, empty set, whose order is told -/
theorem newG (x : Value) {Q₁ : Value → Shared → Prop}
    (h : Q₁ (.ref s.heap.objs.size) { s with heap := s.heap.push { cls := .type "set", dict := none, data := .set #[] 0 (.fresh 0 0 (!w.params.followText "set-order")) } }) :
    codeAny (model prog w) A (.call (.builtin "set.__new__") ⟨[.type "set", x], []⟩) (wants Q₁ E) s := by
  refine codeAny_of_tree ?_
  show wpAny _ A.in1 (do checkBuiltinCall "set.__new__" ⟨[.type "set", x], []⟩; again (.builtin "set.__new__" ⟨[.type "set", x], []⟩)) _ _ s
  refine wpAny_bind (wpAny_of_eq (PySem.F.newCall_set_1 x) (wpAny_pure ⟨plainId_quiet PySem.F.plain_set_new _, codeAny_builtin PySem.F.entry_set_new ?_⟩))
  (rw [Around.under_plainId PySem.F.plain_set_new _]); (unfold Builtin.«set.__new__» Builtin.Frozenset.newClass)
  have sub := sub_set_self
  obtain ⟨hp, gs, dr, tk, os⟩ := s
  dsimp only
  wp_walk
  refine wpAny_askSetting (wpAny_pure ?_)
  (dsimp only); (simp only [newObj]); (refine wpAny_bind (wpAny_alloc (wpAny_pure (wpAny_pure h))))
theorem freshG {h : Heap} : SetG (knd := knd) (kf := kf) (h.push { cls := .type "set", dict := none, data := .set #[] 0 (.fresh 0 0 (!w.params.followText "set-order")) }) h.objs.size [] := by
  refine ⟨_, #[], 0, _, Heap.get?_push_size _ rfl, ⟨rfl, rfl, rfl⟩, rfl, fun e he => by simp at he, List.Perm.refl _, List.nodup_nil, by decide, rfl, List.Pairwise.nil, ?_⟩
  show _ ∨ (!w.params.followText "set-order") = true
  cases w.params.followText "set-order"
  · exact .inr rfl
  · exact .inl rfl
set_option maxHeartbeats 3200000 in
theorem call_setG (hkf : ∀ k v, knd.is k v = true → kf v = k) {l : Addr} {its : Array Value} {xs : List K} {Q : Value → Shared → Prop} (hh : A.handled = none) (hl : s.heap.IsList l its) (hx : xs.length = its.size) (hb : xs.length + 1 < scanBound)
    (hv : ∀ (i : Nat) (v : Value), its[i]? = some v → ∃ k, xs[i]? = some k ∧ knd.is k v = true ∧ v.scannable = true)
    (h : ∀ (h' : Heap) (tk : Nat), SetG knd kf h' s.heap.objs.size (dd xs) → (∀ b o, s.heap.get? b = some o → h'.get? b = some o) → Q (.ref s.heap.objs.size) { s with heap := h', toks := tk }) :
    wpAny (model prog w) A (call (.type "set") [.ref l]) Q E s := by
  obtain ⟨c, tl, hmro⟩ := PySem.F.called_set.mro
  have mk := PySem.F.called_set.made
  have sb := PySem.F.called_set.sub
  refine wpAny_call (codeAny_of_tree ?_)
  show wpAny _ _ (callAny (.type "set") _) _ _ _
  refine wpAny_pure ⟨Code.quiet_builtin _ (by decide +kernel), codeAny_builtin PySem.F.entry_type_call ?_⟩
  rw [Around.under_plain (weight_type_call_type "set" [.ref l] []) rfl]
  have c1 := PySem.F.called_set.notType
  have c2 := PySem.F.called_set.canCreate
  have c3 := PySem.F.typeCall_set_1 (.ref l)
  repeat (any_goals (first | assumption | wp_step))
  refine codeAny_mono (newG (.ref l) (E := E) (Q₁ := fun x s₁ => x = .ref s.heap.objs.size ∧ s₁ = { s with heap := s.heap.push { cls := .type "set", dict := none, data := .set #[] 0 (.fresh 0 0 (!w.params.followText "set-order")) } }) ⟨rfl, rfl⟩) fun r s₁ hr => ?_
  cases r with
  | error e => exact hr
  | ok fl =>
    cases fl with
    | ret x =>
      obtain ⟨rfl, rfl⟩ := hr
      have g0 : SetG knd kf (s.heap.push { cls := .type "set", dict := none, data := .set #[] 0 (.fresh 0 0 (!w.params.followText "set-order")) }) s.heap.objs.size [] := freshG
      generalize (!w.params.followText "set-order") = led at g0 ⊢
      have hS : (s.heap.push { cls := .type "set", dict := none, data := .set #[] 0 (.fresh 0 0 led) }).get? s.heap.objs.size = some { cls := .type "set", dict := none, data := .set #[] 0 (.fresh 0 0 led) } := Heap.get?_push_size _ rfl
      have hT : Shared.TypeIs { s with heap := s.heap.push { cls := .type "set", dict := none, data := .set #[] 0 (.fresh 0 0 led) } } (.ref s.heap.objs.size) "set" := ⟨_, hS, rfl⟩
      have c4 := PySem.F.called_set.init.lookup
      have c5 := PySem.F.called_set.init.bind (.ref s.heap.objs.size)
      repeat (any_goals (first | assumption | wp_step))
      refine codeAny_mono (codeAny_call_builtin (R := wants (fun r s₂ => r = .none ∧ ∃ h' tk, s₂ = { s with heap := h', toks := tk } ∧ SetG knd kf h' s.heap.objs.size (dd xs) ∧ (∀ b o, s.heap.get? b = some o → h'.get? b = some o)) E)
        PySem.F.called_set.init.plain PySem.F.entry_set_init (check_set_init_1 hT ?_)) fun r₂ s₂ hr₂ => ?_
      · obtain ⟨ol, hol, hcl, nl, hdl⟩ := hl
        obtain ⟨ocls, odict, odata, oslots⟩ := ol
        simp only at hcl hdl
        subst hcl; subst hdl
        have hol' : (s.heap.push { cls := .type "set", dict := none, data := .set #[] 0 (.fresh 0 0 led) }).get? l = some { cls := .type "list", dict := odict, data := .seq its nl, slots := oslots } := Heap.get?_push_of_some _ hol
        have e1 := PySem.F.sub_list_set
        have e2 := PySem.F.sub_list_frozenset
        have e3 : (Value.type "list" == Value.type "dict") = false := by decide
        have hl1 : (s.heap.push { cls := .type "set", dict := none, data := .set #[] 0 (.fresh 0 0 led) }).IsList l its := ⟨_, hol', rfl, nl, rfl⟩
        unfold Builtin.«set.__init__» noKeywords Builtin.Frozenset.updateFrom
        generalize hPI : pyIter = PI
        wp_walk
        subst hPI
        refine wpAny_pyIter_list hl1 ?_
        refine wpAny_bind (wpAny_runValue ?_)
        have lS : l < s.heap.objs.size := Heap.lt_size hol
        have h3 : A.in1.in1.in1.handled = none := by simp [hh]
        have sz : (s.heap.push { cls := .type "set", dict := none, data := .set #[] 0 (.fresh 0 0 led) }).objs.size = s.heap.objs.size + 1 := Heap.size_push ..
        have neI : l ≠ (s.heap.push { cls := .type "set", dict := none, data := .set #[] 0 (.fresh 0 0 led) }).objs.size := by rw [sz]; exact Nat.ne_of_lt (Nat.lt_succ_of_lt lS)
        have nS : s.heap.objs.size ∉ [(s.heap.push { cls := .type "set", dict := none, data := .set #[] 0 (.fresh 0 0 led) }).objs.size, l] := by
          rw [sz]
          simp only [List.mem_cons, List.not_mem_nil, or_false, not_or]
          exact ⟨Nat.ne_of_lt (Nat.lt_succ_self _), Nat.ne_of_gt lS⟩
        refine loopG hkf ((Walks.list h3 _ l neI its).toS) s.heap.objs.size nS xs hx (by rw [← hx]; exact hb) hv (its.size - 0) 0 _ (by omega) (Nat.zero_le _) ⟨⟨_, Heap.get?_push_size _ rfl, rfl, rfl⟩, hl1.push _⟩ ?hS0 ?hR
        case hS0 => exact g0.at fun o e => Heap.get?_push_of_some _ e
        case hR =>
          intro s' mv q
          obtain ⟨h', g', d', tk', os'⟩ := s'
          have eg : g' = s.gens := mv.gens
          have ed : d' = s.drawn := mv.drawn
          have eo : os' = s.os := mv.os
          subst eg; subst ed; subst eo
          show wpAny _ _ _ _ _ _
          refine wpAny_pure ?_
          show wpAny _ _ (ret Value.none) _ _ _
          refine wpAny_pure ⟨rfl, h', tk', rfl, q, fun b o e => ?_⟩
          have lb : b < s.heap.objs.size := Heap.lt_size e
          exact mv.heap b o (by rw [sz]; simp only [List.mem_cons, List.not_mem_nil, or_false, not_or]; exact ⟨Nat.ne_of_lt lb, Nat.ne_of_lt (Nat.lt_succ_of_lt lb)⟩) (Heap.get?_push_of_some _ (Heap.get?_push_of_some _ e))
      · cases r₂ with
        | error e => exact hr₂
        | ok fl₂ =>
          cases fl₂ with
          | ret r =>
            obtain ⟨rfl, h', tk, rfl, q, kp⟩ := hr₂
            repeat (any_goals (first | assumption | wp_step))
            exact h _ _ q kp
          | _ => exact hr₂.elim
    | _ => exact hr.elim
end
end Dl

/-! D2: operations upon plain data, and that the model does them. -/
namespace Dl
open PySem PySem.Spec PyProof.Rows L2

/-! ### order of texts, sorting -/
def ltS (x y : Str) : Bool := ltCps x.cps.toList y.cps.toList
def insS (x : Str) : List Str → List Str
  | [] => [x]
  | y :: r => if ltS y x = true then y :: insS x r else x :: y :: r
def sortS : List Str → List Str
  | [] => []
  | x :: r => insS x (sortS r)
theorem ltC_irr : ∀ a : List Nat, ltCps a a = false
  | [] => rfl
  | a :: r => by simp [ltCps, ltC_irr r]
theorem ltC_trans : ∀ a b c : List Nat, ltCps a b = true → ltCps b c = true → ltCps a c = true
  | [], [], _, h, _ => by simp [ltCps] at h
  | [], _ :: _, [], _, h => by simp [ltCps] at h
  | [], _ :: _, _ :: _, _, _ => rfl
  | _ :: _, [], _, h, _ => by simp [ltCps] at h
  | _ :: _, _ :: _, [], _, h => by simp [ltCps] at h
  | x :: a, y :: b, z :: c, h, g => by
    simp only [ltCps, Bool.or_eq_true, decide_eq_true_eq, Bool.and_eq_true, beq_iff_eq] at h g ⊢
    rcases h with h | ⟨h1, h2⟩ <;> rcases g with g | ⟨g1, g2⟩
    · exact .inl (by omega)
    · exact .inl (by omega)
    · exact .inl (by omega)
    · exact .inr ⟨by omega, ltC_trans a b c h2 g2⟩
theorem ltC_tot : ∀ a b : List Nat, ltCps a b = false → ltCps b a = false → a = b
  | [], [], _, _ => rfl
  | [], _ :: _, h, _ => by simp [ltCps] at h
  | _ :: _, [], _, h => by simp [ltCps] at h
  | x :: a, y :: b, h, g => by
    simp only [ltCps, Bool.or_eq_false_iff, decide_eq_false_iff_not, Bool.and_eq_false_iff] at h g
    have e : x = y := by omega
    subst e
    rw [ltC_tot a b (by simpa using h.2) (by simpa using g.2)]
theorem ltS_irr (x : Str) : ltS x x = false := ltC_irr _
theorem ltS_trans {x y z : Str} (h : ltS x y = true) (g : ltS y z = true) : ltS x z = true := ltC_trans _ _ _ h g
theorem ltS_tot {x y : Str} (h : ltS x y = false) (g : ltS y x = false) : x = y := TL.ext_tl (ltC_tot _ _ h g)
theorem leS_trans {x y z : Str} (h : ltS y x = false) (g : ltS z y = false) : ltS z x = false := by
  cases q : ltS z x with
  | false => rfl
  | true =>
    cases w : ltS x y with
    | true => rw [ltS_trans q w] at g; cases g
    | false => rw [ltS_tot w h, g] at q; cases q
abbrev RisS (l : List Str) : Prop := l.Pairwise fun x y => ltS y x = false
theorem insS_perm (x : Str) : ∀ l : List Str, (insS x l).Perm (x :: l)
  | [] => List.Perm.refl _
  | y :: r => by
    unfold insS
    split
    · exact ((insS_perm x r).cons y).trans (List.Perm.swap x y r)
    · exact List.Perm.refl _
theorem sortS_perm : ∀ l : List Str, (sortS l).Perm l
  | [] => List.Perm.refl _
  | x :: r => (insS_perm x (sortS r)).trans ((sortS_perm r).cons x)
theorem insS_ris (x : Str) : ∀ l : List Str, RisS l → RisS (insS x l)
  | [], _ => List.pairwise_singleton _ _
  | y :: r, h => by
    unfold insS
    have h' := List.pairwise_cons.mp h
    split
    · rename_i hy
      refine List.pairwise_cons.mpr ⟨fun z hz => ?_, insS_ris x r h'.2⟩
      rcases List.mem_cons.mp ((insS_perm x r).mem_iff.mp hz) with rfl | hz
      · cases q : ltS z y with
        | false => rfl
        | true => have := ltS_trans hy q; rw [ltS_irr] at this; cases this
      · exact h'.1 z hz
    · rename_i hy
      have hy' : ltS y x = false := by simpa using hy
      refine List.pairwise_cons.mpr ⟨fun z hz => ?_, h⟩
      rcases List.mem_cons.mp hz with rfl | hz
      · exact hy'
      · exact leS_trans hy' (h'.1 z hz)
theorem sortS_ris : ∀ l : List Str, RisS (sortS l)
  | [] => List.Pairwise.nil
  | x :: r => insS_ris x _ (sortS_ris r)
theorem ris_unique : ∀ {l m : List Str}, RisS l → RisS m → l.Perm m → l = m
  | [], m, _, _, p => by rw [List.nil_perm.mp p]
  | x :: l, [], _, _, p => by have := p.length_eq; simp at this
  | x :: l, y :: m, h, g, p => by
    have h' := List.pairwise_cons.mp h
    have g' := List.pairwise_cons.mp g
    have e : x = y := by
      have hx : x ∈ y :: m := p.mem_iff.mp List.mem_cons_self
      have hy : y ∈ x :: l := p.mem_iff.mpr List.mem_cons_self
      rcases List.mem_cons.mp hx with e | hx
      · exact e
      rcases List.mem_cons.mp hy with e | hy
      · exact e.symm
      exact ltS_tot (g'.1 x hx) (h'.1 y hy)
    subst e
    rw [ris_unique h'.2 g'.2 (List.Perm.cons_inv p)]
theorem risingS_iff : ∀ (l : List Str) (x : Str), risingS x l = true ↔ RisS (x :: l)
  | [], x => by simp [risingS]
  | y :: r, x => by
    unfold risingS
    rw [Bool.and_eq_true, risingS_iff r y, Bool.not_eq_true']
    constructor
    · rintro ⟨h1, h2⟩
      have h2' := List.pairwise_cons.mp h2
      refine List.pairwise_cons.mpr ⟨fun z hz => ?_, h2⟩
      rcases List.mem_cons.mp hz with rfl | hz
      · exact h1
      · exact leS_trans h1 (h2'.1 z hz)
    · intro h
      have h' := List.pairwise_cons.mp h
      exact ⟨h'.1 y List.mem_cons_self, h'.2⟩
theorem sortedS_iff (l : List Str) : sortedS l = true ↔ RisS l := by
  cases l with
  | nil => simp [sortedS]
  | cons x r => exact risingS_iff r x
theorem sortS_of {ys xs : List Str} (p : ys.Perm xs) (h : sortedS ys = true) : ys = sortS xs :=
  ris_unique ((sortedS_iff ys).mp h) (sortS_ris xs) (p.trans (sortS_perm xs).symm)
def insI (x : Int) : List Int → List Int
  | [] => [x]
  | y :: r => if y < x then y :: insI x r else x :: y :: r
def sortI : List Int → List Int
  | [] => []
  | x :: r => insI x (sortI r)
theorem insI_perm (x : Int) : ∀ l : List Int, (insI x l).Perm (x :: l)
  | [] => List.Perm.refl _
  | y :: r => by
    unfold insI
    split
    · exact ((insI_perm x r).cons y).trans (List.Perm.swap x y r)
    · exact List.Perm.refl _
theorem sortI_perm : ∀ l : List Int, (sortI l).Perm l
  | [] => List.Perm.refl _
  | x :: r => (insI_perm x (sortI r)).trans ((sortI_perm r).cons x)
theorem insI_ris (x : Int) : ∀ l : List Int, l.Pairwise (· ≤ ·) → (insI x l).Pairwise (· ≤ ·)
  | [], _ => List.pairwise_singleton _ _
  | y :: r, h => by
    unfold insI
    have h' := List.pairwise_cons.mp h
    split
    · refine List.pairwise_cons.mpr ⟨fun z hz => ?_, insI_ris x r h'.2⟩
      rcases List.mem_cons.mp ((insI_perm x r).mem_iff.mp hz) with rfl | hz
      · omega
      · exact h'.1 z hz
    · refine List.pairwise_cons.mpr ⟨fun z hz => ?_, h⟩
      rcases List.mem_cons.mp hz with rfl | hz
      · omega
      · have := h'.1 z hz
        omega
theorem sortI_ris : ∀ l : List Int, (sortI l).Pairwise (· ≤ ·)
  | [] => List.Pairwise.nil
  | x :: r => insI_ris x _ (sortI_ris r)
theorem risI_unique : ∀ {l m : List Int}, l.Pairwise (· ≤ ·) → m.Pairwise (· ≤ ·) → l.Perm m → l = m
  | [], m, _, _, p => by rw [List.nil_perm.mp p]
  | x :: l, [], _, _, p => by have := p.length_eq; simp at this
  | x :: l, y :: m, h, g, p => by
    have h' := List.pairwise_cons.mp h
    have g' := List.pairwise_cons.mp g
    have e : x = y := by
      have hx : x ∈ y :: m := p.mem_iff.mp List.mem_cons_self
      have hy : y ∈ x :: l := p.mem_iff.mpr List.mem_cons_self
      rcases List.mem_cons.mp hx with e | hx
      · exact e
      rcases List.mem_cons.mp hy with e | hy
      · exact e.symm
      have h1 := g'.1 x hx
      have h2 := h'.1 y hy
      omega
    subst e
    rw [risI_unique h'.2 g'.2 (List.Perm.cons_inv p)]
theorem sortI_of {ys xs : List Int} (p : ys.Perm xs) (h : ys.Pairwise (· ≤ ·)) : ys = sortI xs := risI_unique h (sortI_ris xs) (p.trans (sortI_perm xs).symm)

/-! ### flat data -/
def flatD : Dat → Bool
  | .non => true
  | .bl _ => true
  | .int _ => true
  | .str _ => true
  | _ => false
def toV : Dat → V
  | .bl b => .bl b
  | .int i => .int i
  | .str x => .str x
  | _ => .non
theorem Den.flat {K : Kw} {H : Hp} {d : Dat} {v : V} (f : flatD d = true) (h : Den K H d v) : v = toV d := by
  cases d with
  | non => exact h
  | bl b => exact h
  | int i => exact h
  | str x => exact h.1
  | _ => exact absurd (show false = true from f) Bool.false_ne_true
theorem flatV_toV {d : Dat} (f : flatD d = true) : flatV (toV d) = true := by
  cases d with
  | non => rfl
  | bl b => rfl
  | int i => rfl
  | str x => rfl
  | _ => exact absurd (show false = true from f) Bool.false_ne_true
theorem DenL.flat {K : Kw} {H : Hp} : ∀ {ds : List Dat} {xs : List V}, ds.all flatD = true → DenL K H ds xs → xs = ds.map toV ∧ xs.all flatV = true
  | [], _, _, h => by cases h; exact ⟨rfl, rfl⟩
  | d :: ds, _, f, ⟨v, vs, e, h, r⟩ => by
    rw [List.all_cons, Bool.and_eq_true] at f
    obtain ⟨e1, e2⟩ := DenL.flat f.2 r
    have e3 := Den.flat f.1 h
    subst e
    refine ⟨by rw [List.map_cons, ← e3, ← e1], ?_⟩
    rw [List.all_cons, e2, e3, flatV_toV f.1]
    rfl
/-- == of flat data -/
def feq (d e : Dat) : Bool := eqV (toV d) (toV e)
theorem Seen.den {K : Kw} {F H : Hp} {d : Dat} {v : V} (f : flatD d = true) (h : Seen K F H d v) : Den K F d v := by
  cases d with
  | lst ds => exact absurd (show false = true from f) Bool.false_ne_true
  | dct ks vs => exact absurd (show false = true from f) Bool.false_ne_true
  | _ => exact h

/-! ### deep == -/
mutual
def toPy : Dat → PyData
  | .non => .none
  | .bl b => .bool b
  | .int i => .int i
  | .str x => .str x
  | .tup ds => .tuple (toPys ds)
  | .lst ds => .list (toPys ds)
  | .dct _ _ => .dict []
  | .fn _ _ => .dict []
def toPys : List Dat → List PyData
  | [] => []
  | d :: ds => toPy d :: toPys ds
end
theorem canAll_cons {d : PyData} {ds : List PyData} (h : PyData.canLayAll0 (d :: ds) = true) : d.canLay0 = true ∧ PyData.canLayAll0 ds = true := by
  unfold PyData.canLayAll0 at h
  exact Bool.and_eq_true_iff.mp h
mutual
theorem Den.dp {K : Kw} {H : Hp} : ∀ (d : Dat) {v : V}, (toPy d).canLay0 = true → Den K H d v → Dp K H v (toPy d)
  | .non, _, _, h => by cases h; exact .non
  | .bl _, _, _, h => by cases h; exact .bl _
  | .int _, _, _, h => by cases h; exact .int _
  | .str _, _, _, h => by cases h.1; exact .str _
  | .tup ds, _, c, ⟨a, xs, e, q, l, r⟩ => by
    subst e
    exact .tup q (DenL.dp ds (by unfold toPy PyData.canLay0 at c; exact c) r)
  | .lst ds, _, c, ⟨a, xs, e, q, l, r⟩ => by
    subst e
    exact .lst q (DenL.dp ds (by unfold toPy PyData.canLay0 at c; exact c) r)
  | .dct _ _, _, c, _ => by cases c
  | .fn _ _, _, c, _ => by cases c
theorem DenL.dp {K : Kw} {H : Hp} : ∀ (ds : List Dat) {xs : List V}, PyData.canLayAll0 (toPys ds) = true → DenL K H ds xs → DpAll K H xs (toPys ds)
  | [], _, _, h => by cases h; exact .nil
  | d :: ds, _, c, ⟨v, vs, e, h, r⟩ => by
    subst e
    have c' := canAll_cons (d := toPy d) (ds := toPys ds) c
    exact .cons (Den.dp d c'.1 h) (DenL.dp ds c'.2 r)
end
/-- the whole datum in the heap itself -/
theorem Seen.full {K : Kw} {F H : Hp} (s : Same F H) {d : Dat} {v : V} (h : Seen K F H d v) : Den K H d v := by
  cases d with
  | lst ds =>
    obtain ⟨a, xs, e, q, l, r⟩ := h
    exact ⟨a, xs, e, q, l, DenL.mono s ds r⟩
  | dct ks vs =>
    obtain ⟨a, u, ws, zs, e, q, l, r1, r2⟩ := h
    exact ⟨a, u, ws, zs, e, q, l, DenL.mono s ks r1, DenL.mono s vs r2⟩
  | _ => exact Den.mono s _ h

/-! ### the forms of the rules -/
def rD1 (K : Kw) (f : Dat → Option Out) : V → Hp → VK → Prop := fun x H Q => ∃ F d o, Same F H ∧ Seen K F H d x ∧ f d = some o ∧ ∀ v H', NewOk K F H v H' o → Q v H'
def rD2 (K : Kw) (f : Dat → Dat → Option Out) : R2 := fun x y H Q => ∃ F d e o, Same F H ∧ Seen K F H d x ∧ Seen K F H e y ∧ f d e = some o ∧ ∀ v H', NewOk K F H v H' o → Q v H'
/-- a call's form -/
def rC1 (K : Kw) (f : Dat → Option Out) : List V → Hp → VK → Prop := fun xs H Q => ∃ x, xs = [x] ∧ rD1 K f x H Q
def rC2 (K : Kw) (f : Dat → Dat → Option Out) : List V → Hp → VK → Prop := fun xs H Q => ∃ x y, xs = [x, y] ∧ rD2 K f x y H Q
def rM1 (K : Kw) (f : Dat → Dat → Option Out) : V → List V → Hp → VK → Prop := fun x xs H Q => ∃ y, xs = [y] ∧ rD2 K f x y H Q

section
variable {K : Kw} {F H : Hp}
theorem new_int (s : Same F H) (i : Int) : NewOk K F H (.int i) H (.val (.int i)) := NewOk.same s rfl
theorem new_bl (s : Same F H) (b : Bool) : NewOk K F H (.bl b) H (.val (.bl b)) := NewOk.same s rfl
theorem new_non (s : Same F H) : NewOk K F H .non H (.val .non) := NewOk.same s rfl
theorem new_str (s : Same F H) {x : Str} (h : x.length ≤ sizeLine) : NewOk K F H (.str x) H (.val (.str x)) := NewOk.same s ⟨rfl, h⟩
end

/-! ### + - * // % ** -/
def semAdd : Dat → Dat → Option Out
  | .int i, .int j => some (.val (.int (i + j)))
  | .str x, .str y => if x.length + y.length ≤ sizeLine then some (.val (.str (x ++ y))) else none
  | .lst a, .lst b => if a.length + b.length ≤ sizeLine then some (.fresh (.lst (a ++ b))) else none
  | .tup a, .tup b => if a.isEmpty = false ∧ a.length + b.length ≤ sizeLine then some (.val (.tup (a ++ b))) else none
  | _, _ => none
def semSub : Dat → Dat → Option Out
  | .int i, .int j => some (.val (.int (i - j)))
  | _, _ => none
/-- a text again and again -/
def repS (x : Str) (n : Nat) : Str := ⟨(List.replicate n x.cps.toList).flatten.toArray⟩
def semMul : Dat → Dat → Option Out
  | .int i, .int j => if (-(2 ^ 64) < i ∧ i < 2 ^ 64) ∨ (-(2 ^ 64) < j ∧ j < 2 ^ 64) then some (.val (.int (i * j))) else none
  | .str x, .int n => if -(2 ^ 63) ≤ n ∧ n < 2 ^ 63 ∧ x.length * n.toNat ≤ sizeLine then some (.val (.str (repS x n.toNat))) else none
  | .lst ds, .int n => if -(2 ^ 63) ≤ n ∧ n < 2 ^ 63 ∧ ds.length * n.toNat ≤ sizeLine then some (.fresh (.lst (List.replicate n.toNat ds).flatten)) else none
  | .tup ds, .int n => if 0 ≤ n ∧ n ≤ 1000 ∧ ds.length ≤ 1000 ∧ ds.isEmpty = false then some (.val (.tup (List.replicate n.toNat ds).flatten)) else none
  | _, _ => none
def semDiv : Dat → Dat → Option Out
  | .int i, .int j => if 0 < j ∧ j < 1073741824 then some (.val (.int (i / j))) else none
  | _, _ => none
def semBor : Dat → Dat → Option Out
  | .int i, .int j => some (.val (.int (Builtin.bitOr i j)))
  | _, _ => none
def semMod : Dat → Dat → Option Out
  | .int i, .int j => if 0 < j then some (.val (.int (i % j))) else none
  | _, _ => none
def semPow : Dat → Dat → Option Out
  | .int i, .int j => if 0 ≤ j ∧ j ≤ 1000000 ∧ i.natAbs < 2 ^ 64 then some (.val (.int (i ^ j.toNat))) else none
  | _, _ => none

section
variable {X : Cx} {G : CK}
theorem ok_add : OpR X (binaryOp .Add) (rD2 (X.kw G) semAdd) := by
  intro pins s σ H x y v u Q I rx ry h
  obtain ⟨F, d, e, o, sm, hd, he, ho, q⟩ := h
  unfold semAdd at ho
  split at ho
  · cases ho
    have hd : x = .int _ := hd
    have he : y = .int _ := he
    exact op_add pins s σ H x y v u Q I rx ry ⟨_, _, hd, he, q _ _ (new_int sm _)⟩
  · rename_i x' y'
    have hd : x = .str x' ∧ _ := hd
    have he : y = .str y' ∧ _ := he
    split at ho
    · rename_i hl
      cases ho
      exact op_add_str pins s σ H x y v u Q I rx ry ⟨_, _, hd.1, he.1, hl, q _ _ (new_str sm (by rw [TL.len_tl, TL.tl_append, List.length_append, ← TL.len_tl, ← TL.len_tl]; exact hl))⟩
    · cases ho
  · rename_i a b
    split at ho
    · rename_i hl
      cases ho
      obtain ⟨l, xs, rfl, hx, _, rx'⟩ := hd
      obtain ⟨l2, zs, rfl, hz, _, rz⟩ := he
      cases rx
      cases ry
      obtain ⟨its, r, p1, z1⟩ := I.list hx
      obtain ⟨its2, r2, p2, z2⟩ := I.list hz
      have hl1 := r.length
      have hl2 := r2.length
      have l1 := DenL.length rx'
      have l2' := DenL.length rz
      obtain ⟨⟨oc, dd, dt, sl⟩, n1, ho1, hc1, hd1, hq1⟩ := p1
      obtain ⟨⟨oc2, dd2, dt2, sl2⟩, n2, ho2, hc2, hd2, hq2⟩ := p2
      simp only at hc1 hq1 hc2 hq2
      subst hc1 hq1 hc2 hq2
      refine concat_meets ⟨_, ho1, rfl⟩ ⟨_, ho2, rfl⟩ noFill_list_add seq_list_add PySem.F.slot_list_add PySem.F.entry_list_add (PySem.F.args_list_add_2 _ _) (list_addW l l2 its.toArray its2.toArray n1 n2 dd dd2 sl sl2 (by rw [List.size_toArray, List.size_toArray]; omega)) ⟨ho1, ho2, ?_⟩
      rw [show its.toArray ++ its2.toArray = (its ++ its2).toArray from by simp]
      exact ⟨.ref _, _, I.lnew (t' := s.toks) (r.append r2) (by rw [List.length_append]; omega), rfl, q _ _ (NewOk.lst sm I.fresh (by rw [List.length_append]; omega) (DenL.app rx' rz))⟩
    · cases ho
  · rename_i a b
    split at ho
    · rename_i hl
      cases ho
      obtain ⟨l, xs, rfl, hx, lx, rx'⟩ := hd
      obtain ⟨l2, zs, rfl, hz, lz, rz⟩ := he
      have l1 := DenL.length rx'
      have l2' := DenL.length rz
      refine op_catT pins s σ H _ _ v u Q I rx ry ⟨l, l2, xs, zs, rfl, rfl, Same.seqT sm hx, Same.seqT sm hz, fun z => ?_, by omega, fun z => ?_, fun z p hp => ?_⟩
      · subst z
        cases a with
        | nil => exact absurd hl.1 (by decide)
        | cons a1 a2 => simp at l1
      · subst z
        have eb : b = [] := List.eq_nil_of_length_eq_zero (by simpa using l2')
        subst eb
        rw [List.append_nil] at q
        exact q _ _ (NewOk.same sm ⟨l, xs, rfl, hx, lx, rx'⟩)
      · exact q _ _ (NewOk.tup sm hp (by rw [List.length_append]; omega) (DenL.app rx' rz))
    · cases ho
  · cases ho
theorem ok_sub : OpR X (binaryOp .Sub) (rD2 (X.kw G) semSub) := by
  intro pins s σ H x y v u Q I rx ry h
  obtain ⟨F, d, e, o, sm, hd, he, ho, q⟩ := h
  unfold semSub at ho
  split at ho
  · cases ho
    have hd : x = .int _ := hd
    have he : y = .int _ := he
    exact op_sub pins s σ H x y v u Q I rx ry ⟨_, _, hd, he, q _ _ (new_int sm _)⟩
  · cases ho
theorem repS_zero (x : Str) : repS x 0 = Str.empty := rfl
theorem repS_one (x : Str) : repS x 1 = x := by
  unfold repS
  simp
theorem foldl_cps : ∀ (n : Nat) (a : List Nat) (b : List Nat), (List.replicate n a.toArray).foldl (· ++ ·) b.toArray = (b ++ (List.replicate n a).flatten).toArray
  | 0, a, b => by simp
  | n + 1, a, b => by
    rw [List.replicate_succ, List.foldl_cons]
    have e : b.toArray ++ a.toArray = (b ++ a).toArray := by simp
    rw [e, foldl_cps n a (b ++ a), List.replicate_succ, List.flatten_cons, List.append_assoc]
theorem repS_eq (x : Str) (n : Nat) : (⟨(List.replicate n x.cps).foldl (· ++ ·) #[]⟩ : Str) = repS x n := by
  have h := foldl_cps n x.cps.toList []
  rw [List.nil_append] at h
  exact congrArg Str.mk h
theorem repS_len (x : Str) (n : Nat) : (repS x n).length = x.length * n := by
  show (List.replicate n x.cps.toList).flatten.toArray.size = _
  rw [List.size_toArray]
  induction n with
  | zero => simp
  | succ n ih =>
    rw [List.replicate_succ, List.flatten_cons, List.length_append, ih, Nat.mul_succ]
    show x.cps.toList.length + _ = _
    rw [Array.length_toList]
    show x.length + _ = _
    omega
theorem meets_lmul (l : Addr) (items : Array Value) (n : Nat) (dc : Option Addr) (sl : Array (Option Value)) (k : Int) (t : Tok) (c0 : ¬(!Builtin.List.listFitsIndex k) = true) (c1 : ¬items.size * k.toNat > (2 ^ 63 - 1) / 8) (c2 : ¬Builtin.List.listTooLong (items.size * k.toNat) = true) :
    Meets (Builtin.«list.__mul__» ⟨[.ref l, .int k t], []⟩) (fun _ R s => s.heap.get? l = some { cls := .type "list", dict := dc, data := .seq items n, slots := sl } ∧
      R (.ok (.ret (Value.ref s.heap.objs.size))) { s with heap := s.heap.push { cls := Value.type "list", data := Data.seq (List.foldl (fun x1 x2 => x1 ++ x2) #[] (List.replicate (if items.isEmpty = true then 0 else k.toNat) items)) }, toks := s.toks }) :=
  .of_wp fun prog w A R s h => by
    obtain ⟨hp, gs, dr, tk, os⟩ := s
    obtain ⟨hl, h⟩ := h
    have fits := AutoListH.joined_fits c2
    (wp_walk); (refine wpAny_ite_false (decide_eq_false (Nat.not_lt.mpr fits)) ?_); (wp_walk); exact ⟨_, rfl, h⟩
theorem meets_rmul (k : Int) (t : Tok) (l : Addr) (items : Array Value) (n : Nat) (dc : Option Addr) (sl : Array (Option Value)) :
    Meets (Builtin.«int.__rmul__» ⟨[.int k t, .ref l], []⟩) (fun _ R s => s.heap.get? l = some { cls := .type "list", dict := dc, data := .seq items n, slots := sl } ∧ R (.ok (.ret Value.notImplemented)) s) :=
  .of_wp fun prog w A R s h => by
    obtain ⟨hp, gs, dr, tk, os⟩ := s
    obtain ⟨hl, h⟩ := h
    (wp_walk); exact ⟨_, rfl, h⟩
theorem op_repL : OpR X (binaryOp .Mult) (fun x y H Q => ∃ a k xs, x = V.ref a ∧ y = V.int k ∧ SqL (X.kw G) H a xs ∧ -(2 ^ 63) ≤ k ∧ k < 2 ^ 63 ∧ xs.length * k.toNat ≤ sizeLine ∧ ∀ p, H p = none → Q (.ref p) (upd H p (.lst (List.replicate k.toNat xs).flatten))) := by
  intro pins s σ H x y v u Q I rx ry h
  obtain ⟨a, k, xs, rfl, rfl, hs, k1, k2, kz, q⟩ := h
  cases rx
  obtain ⟨t, rfl⟩ := ry
  obtain ⟨its, rv, ⟨⟨cls, dc, data, sl⟩, n, ho, hc, hdn, hd⟩, hz⟩ := I.list hs
  have hc1 : cls = Value.type "list" := hc
  have hd1 : data = Data.seq its.toArray n := hd
  subst hc1 hd1
  have len : its.toArray.size * k.toNat ≤ sizeLine := by rw [List.size_toArray, ← rv.length]; exact kz
  have cap : ¬ its.toArray.size * k.toNat > (2 ^ 63 - 1) / 8 := by
    have : (sizeLine : Nat) ≤ (2 ^ 63 - 1) / 8 := by decide
    omega
  have fit : ¬ (!Builtin.List.listFitsIndex k) = true := by rw [fitsIndex_both k1 k2]; exact Bool.false_ne_true
  have long : ¬ Builtin.List.listTooLong (its.toArray.size * k.toNat) = true := by rw [notLongL len]; exact Bool.false_ne_true
  have new : List.foldl (fun x1 x2 => x1 ++ x2) #[] (List.replicate (if its.toArray.isEmpty = true then 0 else k.toNat) its.toArray) = (List.replicate k.toNat its).flatten.toArray := by
    have f0 : ∀ m : Nat, List.foldl (fun x1 x2 => x1 ++ x2) #[] (List.replicate m its.toArray) = (List.replicate m its).flatten.toArray := fun m => (foldl_rep its m []).trans (by rw [List.nil_append])
    rw [f0]
    cases its with
    | nil => simp
    | cons b r' => rw [if_neg (by simp)]
  refine wpAny_binaryOp_repeat_ref (T := "list") (U := "int") (by decide) ⟨_, ho, rfl⟩ (fun s' => typeIs_int s' k t) noFill_list_mul PySem.F.fills_int_mul PySem.F.slot_int_rmul repeat_list PySem.F.slot_int_index.lookup
    (call_meets PySem.F.slot_int_rmul (typeIs_int s k t) PySem.F.entry_int_rmul (PySem.F.args_int_rmul_2 _ _) (meets_rmul k t a its.toArray n dc sl)
      ⟨ho, rfl, ⟨_, ho, rfl⟩, call_meets PySem.F.slot_list_mul ⟨_, ho, rfl⟩ PySem.F.entry_list_mul (PySem.F.args_list_mul_2 _ _) (meets_lmul a its.toArray n dc sl k t fit cap long) ⟨ho, ?_⟩⟩)
  rw [new]
  exact ⟨.ref _, _, I.lnew (t' := s.toks) (rv.rep k.toNat) (by rw [PyProof.Rows.lm_len_rep_flat, Nat.mul_comm]; exact kz), rfl, q _ I.fresh⟩
theorem DenL.rep {K : Kw} {H : Hp} {ds : List Dat} {xs : List V} (h : DenL K H ds xs) : ∀ n, DenL K H (List.replicate n ds).flatten (List.replicate n xs).flatten
  | 0 => rfl
  | n + 1 => by
    rw [List.replicate_succ, List.replicate_succ, List.flatten_cons, List.flatten_cons]
    exact DenL.app h (DenL.rep h n)
theorem ok_mul : OpR X (binaryOp .Mult) (rD2 (X.kw G) semMul) := by
  intro pins s σ H x y v u Q I rx ry h
  obtain ⟨F, d, e, o, sm, hd, he, ho, q⟩ := h
  unfold semMul at ho
  split at ho
  · split at ho
    · rename_i hc
      cases ho
      have hd : x = .int _ := hd
      have he : y = .int _ := he
      exact op_mul pins s σ H x y v u Q I rx ry ⟨_, _, hd, he, hc, q _ _ (new_int sm _)⟩
    · cases ho
  · rename_i z n
    split at ho
    · rename_i hc
      cases ho
      have hd : x = .str z ∧ _ := hd
      have he : y = .int n := he
      obtain ⟨rfl, hz⟩ := hd
      subst he
      obtain ⟨t, rfl⟩ := rx
      obtain ⟨t', rfl⟩ := ry
      obtain ⟨c1, c2, c3⟩ := hc
      have hs : sizeLine = 16777216 := sizeLine_eq
      have fin : ∀ (w' : Value) (k : Nat), RelV (.str (repS z n.toNat)) w' → EP X pins σ Q w' { s with toks := k } := fun w' k r => ⟨.str (repS z n.toNat), H, I.tok _, r, q _ _ (new_str sm (by rw [repS_len]; exact c3))⟩
      refine PySem.P.mul_str (by simp; omega) (fun h1 h2 h3 => ?_) (fun _ _ => decide_eq_false (by omega)) ?_
      · have h1' : 1 ≤ n := by omega
        have hb : (z.length : Int) ≤ (2 ^ 63 - 1) / n := by
          apply (Int.le_ediv_iff_mul_le (by omega)).mpr
          have e1 : ((z.length * n.toNat : Nat) : Int) = (z.length : Int) * n := by
            rw [Int.natCast_mul]
            congr 1
            omega
          rw [← e1]
          omega
        omega
      · by_cases h1 : n < 1
        · rw [if_pos h1]
          have e0 : n.toNat = 0 := by omega
          rw [e0, repS_zero] at fin
          exact ⟨by show (0 : Nat) ≤ sizeLine; omega, fin _ _ ⟨_, rfl⟩⟩
        · rw [if_neg h1]
          by_cases h2 : (n == 1 || z.length == 0) = true
          · rw [if_pos h2]
            have ee : repS z n.toNat = z := by
              rw [Bool.or_eq_true] at h2
              rcases h2 with h2 | h2
              · have : n = 1 := by simpa using h2
                subst this
                exact repS_one z
              · have : z.length = 0 := by simpa using h2
                apply TL.ext_tl
                have ez : z.cps.toList = [] := List.eq_nil_of_length_eq_zero (by rw [Array.length_toList]; exact this)
                show (List.replicate n.toNat z.cps.toList).flatten.toArray.toList = z.cps.toList
                rw [ez]
                simp
            rw [ee] at fin
            exact fin _ _ ⟨_, rfl⟩
          · rw [if_neg h2, repS_eq]
            exact ⟨by rw [repS_len]; exact c3, fin _ _ ⟨_, rfl⟩⟩
    · cases ho
  · rename_i ds n
    split at ho
    · rename_i hc
      cases ho
      obtain ⟨a, ys, rfl, hx, lx, r'⟩ := hd
      have he : y = .int n := he
      have len := DenL.length r'
      refine op_repL pins s σ H _ y v u Q I rx ry ⟨a, n, ys, rfl, he, hx, hc.1, hc.2.1, by rw [← len]; exact hc.2.2, fun p hp => q _ _ (NewOk.lst sm hp ?_ (DenL.rep r' n.toNat))⟩
      rw [PyProof.Rows.lm_len_rep_flat, Nat.mul_comm, ← len]
      exact hc.2.2
    · cases ho
  · rename_i ds n
    split at ho
    · rename_i hc
      cases ho
      obtain ⟨a, ys, rfl, hx, lx, r'⟩ := hd
      have he : y = .int n := he
      have len := DenL.length r'
      obtain ⟨h0, h1, h2, h3⟩ := hc
      refine op_mulT pins s σ H _ y v u Q I rx ry ⟨a, n, ys, rfl, he, Same.seqT sm hx, h0, h1, by omega, fun e => ?_, fun ne p hp => q _ _ (NewOk.tup sm hp ?_ (DenL.rep r' n.toNat)), fun z => ?_⟩
      · subst e
        refine q _ _ ⟨F, New.refl sm, a, ys, rfl, hx, lx, ?_⟩
        show DenL _ _ (List.replicate 1 ds).flatten ys
        simpa using r'
      · rw [PyProof.Rows.lm_len_rep_flat, sizeLine_eq]
        have a1 : n.toNat * ys.length ≤ 1000 * 1000 := Nat.mul_le_mul (by omega) (by omega)
        omega
      · rw [z] at len
        have : ds = [] := List.eq_nil_of_length_eq_zero len
        rw [this] at h3
        cases h3
    · cases ho
  · cases ho

theorem ok_div : OpR X (binaryOp .FloorDiv) (rD2 (X.kw G) semDiv) := by
  intro pins s σ H x y v u Q I rx ry h
  obtain ⟨F, d, e, o, sm, hd, he, ho, q⟩ := h
  unfold semDiv at ho
  split at ho
  · split at ho
    · rename_i hc
      cases ho
      exact op_fdiv pins s σ H x y v u Q I rx ry ⟨_, _, hd, he, hc, q _ _ (new_int sm _)⟩
    · cases ho
  · cases ho
theorem ok_mod : OpR X (binaryOp .Mod) (rD2 (X.kw G) semMod) := by
  intro pins s σ H x y v u Q I rx ry h
  obtain ⟨F, d, e, o, sm, hd, he, ho, q⟩ := h
  unfold semMod at ho
  split at ho
  · split at ho
    · rename_i hc
      cases ho
      exact op_mod pins s σ H x y v u Q I rx ry ⟨_, _, hd, he, hc, q _ _ (new_int sm _)⟩
    · cases ho
  · cases ho
theorem ok_bor : OpR X (binaryOp .BitOr) (rD2 (X.kw G) semBor) := by
  intro pins s σ H x y v u Q I rx ry h
  obtain ⟨F, d, e, o, sm, hd, he, ho, q⟩ := h
  unfold semBor at ho
  split at ho
  · cases ho
    exact op_or pins s σ H x y v u Q I rx ry ⟨_, _, hd, he, q _ _ (new_int sm _)⟩
  · cases ho
theorem ok_pow : OpR X (binaryOp .Pow) (rD2 (X.kw G) semPow) := by
  intro pins s σ H x y v u Q I rx ry h
  obtain ⟨F, d, e, o, sm, hd, he, ho, q⟩ := h
  unfold semPow at ho
  split at ho
  · split at ho
    · rename_i hc
      cases ho
      exact op_pow pins s σ H x y v u Q I rx ry ⟨_, _, hd, he, hc, q _ _ (new_int sm _)⟩
    · cases ho
  · cases ho
end

/-! ### comparisons -/
/-- == where it is known -/
def eqD (d e : Dat) : Option Bool :=
  match d, e with
  | .int i, .int j => some (decide (i = j))
  | .str x, .str y => some (decide (x = y))
  | .bl x, .bl y => some (decide (x = y))
  | d, e => if SeqAt.shaped (toPy d) = true ∧ SeqAt.shaped (toPy e) = true then some (PyData.eqv (toPy d) (toPy e)) else none
def semEq (d e : Dat) : Option Out := (eqD d e).map fun b => .val (.bl b)
def semNe (d e : Dat) : Option Out := (eqD d e).map fun b => .val (.bl (!b))
def semLt : Dat → Dat → Option Out
  | .int i, .int j => some (.val (.bl (decide (i < j))))
  | .str x, .str y => some (.val (.bl (ltS x y)))
  | _, _ => none
def semLe : Dat → Dat → Option Out
  | .int i, .int j => some (.val (.bl (decide (i ≤ j))))
  | .str x, .str y => some (.val (.bl (!ltS y x)))
  | _, _ => none
def semGt (d e : Dat) : Option Out := semLt e d
def semGe (d e : Dat) : Option Out := semLe e d
def semIs : Dat → Dat → Option Out
  | .bl x, .bl y => some (.val (.bl (decide (x = y))))
  | .non, .non => some (.val (.bl true))
  | _, .non => some (.val (.bl false))
  | _, _ => none
def semIsNot : Dat → Dat → Option Out
  | .bl x, .bl y => some (.val (.bl (!decide (x = y))))
  | .non, .non => some (.val (.bl false))
  | _, .non => some (.val (.bl true))
  | _, _ => none
/-- c in s, texts -/
def inS (x y : Str) : Bool :=
  match x.cps.toList with
  | [c] => decide (c ∈ y.cps.toList)
  | _ => !(Builtin.Str.occurrences y x 0 y.length 1).isEmpty
def inD (d e : Dat) : Option Bool :=
  match d, e with
  | .str x, .str y => some (inS x y)
  | d, .lst es => if flatD d = true ∧ es.all flatD = true then some (es.any fun z => feq z d) else none
  | d, .tup es => if flatD d = true ∧ es.all flatD = true then some (es.any fun z => feq z d) else none
  | d, .dct ks _ => if okey ks d = true then some (hasK d ks) else none
  | _, _ => none
def semIn (d e : Dat) : Option Out := (inD d e).map fun b => .val (.bl b)
def semNotIn (d e : Dat) : Option Out := (inD d e).map fun b => .val (.bl (!b))

theorem decVI (i j : Int) : decide (V.int i = V.int j) = decide (i = j) := by rw [dec_int, Bool.beq_eq_decide_eq]
theorem decVS (i j : Str) : decide (V.str i = V.str j) = decide (i = j) := by rw [dec_str, Bool.beq_eq_decide_eq]
theorem decVB (i j : Bool) : decide (V.bl i = V.bl j) = decide (i = j) := by rw [dec_bl, Bool.beq_eq_decide_eq]
section
variable {X : Cx} {G : CK}
theorem ok_eq (hu : X.A.units + 64 < cLine) : OpR X (compareOp .Eq) (rD2 (X.kw G) semEq) := by
  intro pins s σ H x y v u Q I rx ry h
  obtain ⟨F, d, e, o, sm, hd, he, ho, q⟩ := h
  unfold semEq at ho
  cases hb : eqD d e with
  | none => rw [hb] at ho; cases ho
  | some b =>
    rw [hb] at ho
    cases ho
    unfold eqD at hb
    split at hb
    · cases hb
      have hd : x = .int _ := hd
      have he : y = .int _ := he
      subst hd he
      refine op_eq pins s σ H _ _ v u Q I rx ry ⟨rfl, ?_⟩
      rw [decVI]
      exact q _ _ (new_bl sm _)
    · cases hb
      have hd : x = .str _ ∧ _ := hd
      have he : y = .str _ ∧ _ := he
      obtain ⟨rfl, _⟩ := hd
      obtain ⟨rfl, _⟩ := he
      refine op_eq pins s σ H _ _ v u Q I rx ry ⟨rfl, ?_⟩
      rw [decVS]
      exact q _ _ (new_bl sm _)
    · cases hb
      have hd : x = .bl _ := hd
      have he : y = .bl _ := he
      subst hd he
      refine op_eq pins s σ H _ _ v u Q I rx ry ⟨rfl, ?_⟩
      rw [decVB]
      exact q _ _ (new_bl sm _)
    · split at hb
      · rename_i hs
        cases hb
        exact op_eqD hu pins s σ H x y v u Q I rx ry ⟨_, _, Den.dp d (SeqAt.canLay_of_shaped hs.1) (Seen.full sm hd), Den.dp e (SeqAt.canLay_of_shaped hs.2) (Seen.full sm he), hs.1, hs.2, q _ _ (new_bl sm _)⟩
      · cases hb
theorem ok_ne (hu : X.A.units + 64 < cLine) : OpR X (compareOp .NotEq) (rD2 (X.kw G) semNe) := by
  intro pins s σ H x y v u Q I rx ry h
  obtain ⟨F, d, e, o, sm, hd, he, ho, q⟩ := h
  unfold semNe at ho
  cases hb : eqD d e with
  | none => rw [hb] at ho; cases ho
  | some b =>
    rw [hb] at ho
    cases ho
    unfold eqD at hb
    split at hb
    · cases hb
      have hd : x = .int _ := hd
      have he : y = .int _ := he
      subst hd he
      refine op_ne pins s σ H _ _ v u Q I rx ry ⟨rfl, ?_⟩
      rw [decVI]
      exact q _ _ (new_bl sm _)
    · cases hb
      have hd : x = .str _ ∧ _ := hd
      have he : y = .str _ ∧ _ := he
      obtain ⟨rfl, _⟩ := hd
      obtain ⟨rfl, _⟩ := he
      refine op_ne pins s σ H _ _ v u Q I rx ry ⟨rfl, ?_⟩
      rw [decVS]
      exact q _ _ (new_bl sm _)
    · cases hb
      have hd : x = .bl _ := hd
      have he : y = .bl _ := he
      subst hd he
      refine op_ne pins s σ H _ _ v u Q I rx ry ⟨rfl, ?_⟩
      rw [decVB]
      exact q _ _ (new_bl sm _)
    · split at hb
      · rename_i hs
        cases hb
        exact op_neD hu pins s σ H x y v u Q I rx ry ⟨_, _, Den.dp d (SeqAt.canLay_of_shaped hs.1) (Seen.full sm hd), Den.dp e (SeqAt.canLay_of_shaped hs.2) (Seen.full sm he), hs.1, hs.2, q _ _ (new_bl sm _)⟩
      · cases hb
theorem ok_lt : OpR X (compareOp .Lt) (rD2 (X.kw G) semLt) := by
  intro pins s σ H x y v u Q I rx ry h
  obtain ⟨F, d, e, o, sm, hd, he, ho, q⟩ := h
  unfold semLt at ho
  split at ho
  · cases ho
    exact op_lt pins s σ H x y v u Q I rx ry ⟨_, _, hd, he, q _ _ (new_bl sm _)⟩
  · cases ho
    refine op_lt_str pins s σ H x y v u Q I rx ry ⟨_, _, hd.1, he.1, ?_⟩
    rw [← ltCps_eq]
    exact q _ _ (new_bl sm _)
  · cases ho
theorem ok_gt : OpR X (compareOp .Gt) (rD2 (X.kw G) semGt) := by
  intro pins s σ H x y v u Q I rx ry h
  obtain ⟨F, d, e, o, sm, hd, he, ho, q⟩ := h
  unfold semGt semLt at ho
  split at ho
  · cases ho
    exact op_gt pins s σ H x y v u Q I rx ry ⟨_, _, hd, he, q _ _ (new_bl sm _)⟩
  · cases ho
    refine op_gt_str pins s σ H x y v u Q I rx ry ⟨_, _, hd.1, he.1, ?_⟩
    rw [← ltCps_eq]
    exact q _ _ (new_bl sm _)
  · cases ho
theorem ok_le : OpR X (compareOp .LtE) (rD2 (X.kw G) semLe) := by
  intro pins s σ H x y v u Q I rx ry h
  obtain ⟨F, d, e, o, sm, hd, he, ho, q⟩ := h
  unfold semLe at ho
  split at ho
  · cases ho
    exact op_le pins s σ H x y v u Q I rx ry ⟨_, _, hd, he, q _ _ (new_bl sm _)⟩
  · cases ho
    refine op_le_str pins s σ H x y v u Q I rx ry ⟨_, _, hd.1, he.1, ?_⟩
    rw [← ltCps_eq]
    exact q _ _ (new_bl sm _)
  · cases ho
theorem ok_ge : OpR X (compareOp .GtE) (rD2 (X.kw G) semGe) := by
  intro pins s σ H x y v u Q I rx ry h
  obtain ⟨F, d, e, o, sm, hd, he, ho, q⟩ := h
  unfold semGe semLe at ho
  split at ho
  · cases ho
    exact op_ge pins s σ H x y v u Q I rx ry ⟨_, _, hd, he, q _ _ (new_bl sm _)⟩
  · cases ho
    refine op_ge_str pins s σ H x y v u Q I rx ry ⟨_, _, hd.1, he.1, ?_⟩
    rw [← ltCps_eq]
    exact q _ _ (new_bl sm _)
  · cases ho
theorem Seen.notNon {K : Kw} {F H : Hp} {d : Dat} {v : V} (h : Seen K F H d v) (n : d ≠ .non) : v ≠ .non := by
  cases d with
  | non => exact absurd rfl n
  | bl b => intro e; rw [show v = _ from h] at e; cases e
  | int b => intro e; rw [show v = _ from h] at e; cases e
  | str b => intro e; rw [h.1] at e; cases e
  | tup ds => obtain ⟨a, xs, e', _⟩ := h; intro e; rw [e'] at e; cases e
  | lst ds => obtain ⟨a, xs, e', _⟩ := h; intro e; rw [e'] at e; cases e
  | dct ks vs => obtain ⟨a, _, _, _, e', _⟩ := h; intro e; rw [e'] at e; cases e
  | fn c ds => obtain ⟨f, e'⟩ := K.G.isref h; intro e; rw [e'] at e; cases e
theorem ok_is : OpR X (compareOp .Is) (rD2 (X.kw G) semIs) := by
  intro pins s σ H x y v u Q I rx ry h
  obtain ⟨F, d, e, o, sm, hd, he, ho, q⟩ := h
  unfold semIs at ho
  split at ho
  · cases ho
    exact op_isBl pins s σ H x y v u Q I rx ry ⟨_, _, hd, he, q _ _ (new_bl sm _)⟩
  · cases ho
    refine op_isN pins s σ H x y v u Q I rx ry ⟨he, ?_⟩
    rw [decide_eq_true (show x = .non from hd)]
    exact q _ _ (new_bl sm _)
  · rename_i hn
    cases ho
    refine op_isN pins s σ H x y v u Q I rx ry ⟨he, ?_⟩
    rw [decide_eq_false (Seen.notNon hd hn)]
    exact q _ _ (new_bl sm _)
  · cases ho
theorem ok_isNot : OpR X (compareOp .IsNot) (rD2 (X.kw G) semIsNot) := by
  intro pins s σ H x y v u Q I rx ry h
  obtain ⟨F, d, e, o, sm, hd, he, ho, q⟩ := h
  unfold semIsNot at ho
  split at ho
  · cases ho
    exact op_notBl pins s σ H x y v u Q I rx ry ⟨_, _, hd, he, q _ _ (new_bl sm _)⟩
  · cases ho
    refine op_notN pins s σ H x y v u Q I rx ry ⟨he, ?_⟩
    rw [decide_eq_true (show x = .non from hd)]
    exact q _ _ (new_bl sm _)
  · rename_i hn
    cases ho
    refine op_notN pins s σ H x y v u Q I rx ry ⟨he, ?_⟩
    rw [decide_eq_false (Seen.notNon hd hn)]
    exact q _ _ (new_bl sm _)
  · cases ho
theorem any_feq {d : Dat} : ∀ es : List Dat, (es.map toV).any (fun y => eqV y (toV d)) = es.any fun z => feq z d
  | [] => rfl
  | e :: es => by rw [List.map_cons, List.any_cons, List.any_cons, any_feq es]; rfl
theorem one_sign {x : Str} {c : Nat} (h : x.cps.toList = [c]) : x = ⟨#[c]⟩ := TL.ext_tl h
theorem ok_in (hu : X.A.units + 64 < cLine) : OpR X (compareOp .In) (rD2 (X.kw G) semIn) := by
  intro pins s σ H x y v u Q I rx ry h
  obtain ⟨F, d, e, o, sm, hd, he, ho, q⟩ := h
  unfold semIn at ho
  cases hb : inD d e with
  | none => rw [hb] at ho; cases ho
  | some b =>
    rw [hb] at ho
    cases ho
    unfold inD at hb
    split at hb
    · rename_i x' y'
      cases hb
      have hd : x = .str x' ∧ _ := hd
      have he : y = .str y' ∧ _ := he
      unfold inS at q
      split at q
      · rename_i c hc
        exact op_in_sign pins s σ H x y v u Q I rx ry ⟨c, y', by rw [hd.1, one_sign hc], he.1, q _ _ (new_bl sm _)⟩
      · exact op_in_str pins s σ H x y v u Q I rx ry ⟨_, _, hd.1, he.1, q _ _ (new_bl sm _)⟩
    · rename_i es
      split at hb
      · rename_i hf
        cases hb
        obtain ⟨a, xs, rfl, hx, lx, r⟩ := he
        have ed := Den.flat hf.1 (Seen.den hf.1 hd)
        obtain ⟨e1, e2⟩ := DenL.flat hf.2 r
        refine op_in_seq pins s σ H _ _ v u Q I rx ry ⟨a, xs, rfl, .inl hx, by rw [ed]; exact flatV_toV hf.1, e2, ?_⟩
        rw [show inV x xs = es.any fun z => feq z d from by unfold inV; rw [e1, ed, any_feq]]
        exact q _ _ (new_bl sm _)
      · cases hb
    · rename_i es
      split at hb
      · rename_i hf
        cases hb
        obtain ⟨a, xs, rfl, hx, lx, r⟩ := he
        have ed := Den.flat hf.1 (Seen.den hf.1 hd)
        obtain ⟨e1, e2⟩ := DenL.flat hf.2 r
        refine op_in_seq pins s σ H _ _ v u Q I rx ry ⟨a, xs, rfl, .inr (Same.seqT sm hx), by rw [ed]; exact flatV_toV hf.1, e2, ?_⟩
        rw [show inV x xs = es.any fun z => feq z d from by unfold inV; rw [e1, ed, any_feq]]
        exact q _ _ (new_bl sm _)
      · cases hb
    · rename_i ks vs _
      split at hb
      · rename_i hf
        cases hb
        exact d_in_ok hu I sm he hd hf ry rx fun s' I' => ⟨.bl _, H, I', rfl, q _ _ (new_bl sm _)⟩
      · cases hb
    · cases hb
theorem ok_notIn (hu : X.A.units + 64 < cLine) : OpR X (compareOp .NotIn) (rD2 (X.kw G) semNotIn) := by
  intro pins s σ H x y v u Q I rx ry h
  obtain ⟨F, d, e, o, sm, hd, he, ho, q⟩ := h
  unfold semNotIn at ho
  cases hb : inD d e with
  | none => rw [hb] at ho; cases ho
  | some b =>
    rw [hb] at ho
    cases ho
    unfold inD at hb
    split at hb
    · rename_i x' y'
      cases hb
      have hd : x = .str x' ∧ _ := hd
      have he : y = .str y' ∧ _ := he
      unfold inS at q
      split at q
      · rename_i c hc
        exact op_notIn_sign pins s σ H x y v u Q I rx ry ⟨c, y', by rw [hd.1, one_sign hc], he.1, q _ _ (new_bl sm _)⟩
      · exact op_notin_str pins s σ H x y v u Q I rx ry ⟨_, _, hd.1, he.1, q _ _ (new_bl sm _)⟩
    · rename_i es
      split at hb
      · rename_i hf
        cases hb
        obtain ⟨a, xs, rfl, hx, lx, r⟩ := he
        have ed := Den.flat hf.1 (Seen.den hf.1 hd)
        obtain ⟨e1, e2⟩ := DenL.flat hf.2 r
        refine op_notIn_seq pins s σ H _ _ v u Q I rx ry ⟨a, xs, rfl, .inl hx, by rw [ed]; exact flatV_toV hf.1, e2, ?_⟩
        rw [show inV x xs = es.any fun z => feq z d from by unfold inV; rw [e1, ed, any_feq]]
        exact q _ _ (new_bl sm _)
      · cases hb
    · rename_i es
      split at hb
      · rename_i hf
        cases hb
        obtain ⟨a, xs, rfl, hx, lx, r⟩ := he
        have ed := Den.flat hf.1 (Seen.den hf.1 hd)
        obtain ⟨e1, e2⟩ := DenL.flat hf.2 r
        refine op_notIn_seq pins s σ H _ _ v u Q I rx ry ⟨a, xs, rfl, .inr (Same.seqT sm hx), by rw [ed]; exact flatV_toV hf.1, e2, ?_⟩
        rw [show inV x xs = es.any fun z => feq z d from by unfold inV; rw [e1, ed, any_feq]]
        exact q _ _ (new_bl sm _)
      · cases hb
    · rename_i ks vs _
      split at hb
      · rename_i hf
        cases hb
        exact d_notIn_ok hu I sm he hd hf ry rx fun s' I' => ⟨.bl _, H, I', rfl, q _ _ (new_bl sm _)⟩
      · cases hb
    · cases hb
end

/-! ### xs[i], xs[a:b] -/
def semAt : Dat → Dat → Option Out
  | .lst ds, .int i => (atI ds i).map .val
  | .tup ds, .int i => (atI ds i).map .val
  | .str x, .int i => (atI x.cps.toList i).map fun c => .val (.str ⟨#[c]⟩)
  | .dct ks vs, k => if okey ks k = true then (getV k ks vs).map .val else none
  | _, _ => none
def cutL {α : Type} (xs : List α) (lo hi : Option Int) : List α := (xs.drop (HT.sIx xs.length 0 lo)).take (HT.sIx xs.length xs.length hi - HT.sIx xs.length 0 lo)
def semCut (d : Dat) (lo hi : Option Int) : Option Out :=
  match d with
  | .lst ds => some (.fresh (.lst (cutL ds lo hi)))
  | .str x => some (.val (.str (cutS x lo hi)))
  | .tup ds => if HT.sIx ds.length 0 lo = 0 ∧ HT.sIx ds.length ds.length hi = ds.length then none else some (.val (.tup (cutL ds lo hi)))
  | _ => none
def semRev : Dat → Option Out
  | .lst ds => some (.fresh (.lst ds.reverse))
  | _ => none
theorem DenL.cut {K : Kw} {H : Hp} {ds : List Dat} {xs : List V} (h : DenL K H ds xs) (lo hi : Option Int) : DenL K H (cutL ds lo hi) (cutV xs lo hi) := by
  unfold cutL cutV
  rw [h.length]
  exact DenL.take _ (DenL.drop _ h)
theorem atI_len {α β : Type} {xs : List α} {ys : List β} (h : xs.length = ys.length) (i : Int) : (ixN xs.length i) = ixN ys.length i := by rw [h]
theorem DenL.at {K : Kw} {H : Hp} {ds : List Dat} {xs : List V} {i : Int} {d : Dat} (h : DenL K H ds xs) (e : atI ds i = some d) : ∃ x, atI xs i = some x ∧ Den K H d x := by
  unfold atI at e ⊢
  rw [← h.length]
  cases hq : ixN ds.length i with
  | none => rw [hq] at e; cases e
  | some j =>
    rw [hq] at e
    obtain ⟨x, hx, q⟩ := DenL.getD h (show ds[j]? = some d from e)
    exact ⟨x, hx, q⟩
section
variable {X : Cx} {G : CK}
theorem ok_at (hu : X.A.units + 64 < cLine) : IxR X (rD2 (X.kw G) semAt) := by
  intro value slice pins s σ H x y v u Q I rx ry h hs
  obtain ⟨F, d, e, o, sm, hd, he, ho, q⟩ := h
  unfold semAt at ho
  split at ho
  · rename_i ds i
    cases ha : atI ds i with
    | none => rw [ha] at ho; cases ho
    | some z =>
      rw [ha] at ho
      cases ho
      obtain ⟨a, xs, rfl, hx, lx, r⟩ := hd
      obtain ⟨w, hw, dw⟩ := DenL.at r ha
      exact ix_list value slice pins s σ H _ _ v u Q I rx ry ⟨a, xs, i, w, rfl, he, hx, hw, q _ _ (NewOk.same sm dw)⟩ hs
  · rename_i ds i
    cases ha : atI ds i with
    | none => rw [ha] at ho; cases ho
    | some z =>
      rw [ha] at ho
      cases ho
      obtain ⟨a, xs, rfl, hx, lx, r⟩ := hd
      obtain ⟨w, hw, dw⟩ := DenL.at r ha
      exact ix_tup value slice pins s σ H _ _ v u Q I rx ry ⟨a, xs, i, w, rfl, he, Same.seqT sm hx, hw, q _ _ (NewOk.same sm dw)⟩ hs
  · rename_i z i
    cases ha : atI z.cps.toList i with
    | none => rw [ha] at ho; cases ho
    | some c =>
      rw [ha] at ho
      cases ho
      exact ix_str value slice pins s σ H _ _ v u Q I rx ry ⟨z, i, c, hd.1, he, hd.2, ha, q _ _ (new_str sm (by show (1 : Nat) ≤ sizeLine; decide))⟩ hs
  · rename_i ks vs
    split at ho
    · rename_i hok
      cases hg : getV e ks vs with
      | none => rw [hg] at ho; cases ho
      | some z =>
        rw [hg] at ho
        cases ho
        exact tail_any (d_type I hd rx) PySem.F.slot_dict_getitem.lookup (d_at hu I sm hd he hok rx ry hg fun w w' s' I' r' dw => ⟨w, H, I', r', q _ _ (NewOk.same sm dw)⟩) hs
    · cases ho
  · cases ho
def rCut (K : Kw) : V → Option Int → Option Int → Hp → VK → Prop := fun x lo hi H Q => ∃ F d o, Same F H ∧ Seen K F H d x ∧ semCut d lo hi = some o ∧ ∀ v H', NewOk K F H v H' o → Q v H'
theorem ok_cut : SlR X (rCut (X.kw G)) := by
  intro pins s σ H x v vl vu lo hi sl Q I rx hs pl pu h
  obtain ⟨F, d, o, sm, hd, ho, q⟩ := h
  unfold semCut at ho
  split at ho
  · cases ho
    obtain ⟨a, xs, rfl, hx, lx, r⟩ := hd
    exact sl_list pins s σ H _ v vl vu lo hi sl Q I rx hs pl pu ⟨a, xs, rfl, hx, fun p hp => q _ _ (NewOk.lst sm hp (Nat.le_trans (cutV_length xs lo hi) lx) (DenL.cut r lo hi))⟩
  · cases ho
    exact sl_str pins s σ H _ v vl vu lo hi sl Q I rx hs pl pu ⟨_, hd.1, hd.2, q _ _ (new_str sm (Nat.le_trans (cutS_length _ lo hi) hd.2))⟩
  · split at ho
    · cases ho
    · rename_i hn
      cases ho
      obtain ⟨a, xs, rfl, hx, lx, r⟩ := hd
      exact sl_tup pins s σ H _ v vl vu lo hi sl Q I rx hs pl pu ⟨a, xs, rfl, Same.seqT sm hx, by rw [← DenL.length r]; exact hn, fun p hp => q _ _ (NewOk.tup sm hp (Nat.le_trans (cutV_length xs lo hi) lx) (DenL.cut r lo hi))⟩
  · cases ho
end

/-! ### x[lo::st] -/
def stepI (n : Nat) (lo : Option Int) (st : Int) : List Nat := Builtin.Str.strSliceIndices lo none st n
def stepS (z : Str) (lo : Option Int) (st : Int) : Str := if (st == 1 && (stepI z.length lo st).length == z.length) = true then z else ⟨((stepI z.length lo st).filterMap (z.cps[·]?)).toArray⟩
def semStep : Dat → Option Int → Int → Option Out
  | .str z, lo, st => if (st == 0) = false ∧ (stepS z lo st).length ≤ sizeLine then some (.val (.str (stepS z lo st))) else none
  | _, _, _ => none
def tStp (K : Kw) (te : TE) (tl : TO) (ts : TE) : TE := fun σ H Q => te σ H fun x H1 => tl σ H1 fun l H2 => ts σ H2 fun y H3 => ∃ st, y = V.int st ∧ ∃ F d o, Same F H3 ∧ Seen K F H3 d x ∧ semStep d l st = some o ∧ ∀ v H', NewOk K F H3 v H' o → Q v H'
section
variable {X : Cx} {G : CK}
theorem pe_step {e st : Expr} {lo : Option Expr} {te ts : TE} {tl : TO} {p2 pos : Pos} (he : PE X e te) (hl : PO X lo tl) (hs : PE X st ts) : PE X (.Subscript e (.Slice lo none (some st) p2) pos) (tStp (X.kw G) te tl ts) := by
  refine ⟨fun pins s σ H Q I h => ?_⟩
  refine Subscript_ (thn (he.run pins s σ H _ I h) fun v s1 ⟨x, H1, I1, r1, q1⟩ => ?_)
  refine wpAny_Slice (thn (hl.run pins s1 σ H1 _ I1 q1) fun vl s2 ⟨l, H2, I2, pl, q2⟩ => ?_)
  rw [evalPart_none]
  refine wpAny_pure ?_
  rw [evalPart_some]
  refine thn (hs.run pins s2 σ H2 _ I2 q2) fun vs s4 ⟨y, H4, I4, ry, k, ey, F, d, o, sm, hd, ho, q⟩ => ?_
  subst ey
  obtain ⟨tk, rfl⟩ := ry
  have I5 : Inv X pins σ H4 { s4 with heap := s4.heap.push { cls := .type "slice", data := .fields #[vl, .none, .int k tk] } } := I4.kept (t' := s4.toks) fun b ob q => Heap.get?_push_of_some _ q
  show wpAny (model X.prog X.w) X.A (subscriptTail e (.Slice lo none (some st) p2) v (.ref s4.heap.objs.size)) (EP X pins σ Q) X.xe { s4 with heap := s4.heap.push { cls := .type "slice", data := .fields #[vl, .none, .int k tk] } }
  unfold semStep at ho
  split at ho
  · rename_i z
    split at ho
    · rename_i hc
      cases ho
      obtain ⟨rfl, hz⟩ := hd
      obtain ⟨t, rfl⟩ := r1
      obtain ⟨l', rfl, rfl⟩ := IsPart.raw pl
      refine tail_any (ops := [.str z t, .ref s4.heap.objs.size]) (typeIs_str _ _ _) PySem.F.slot_str_getitem.lookup ?_ (by with_unfolding_all rfl)
      refine wpAny_getItem_str_slice (l := l') (u := none) (st := some (k, tk)) ⟨_, Heap.get?_push_size _ rfl, rfl, rfl⟩ hc.1 ?_
      have q := q _ _ (new_str sm hc.2)
      have hl2 := hc.2
      unfold stepS stepI at q hl2
      show Made.post (if (k == 1 && (Builtin.Str.strSliceIndices (l'.map (·.1)) none k z.length).length == z.length) = true then Made.val (.str z t)
        else Made.str ⟨((Builtin.Str.strSliceIndices (l'.map (·.1)) none k z.length).filterMap (z.cps[·]?)).toArray⟩) (EP X pins σ Q) _
      by_cases c : (k == 1 && (Builtin.Str.strSliceIndices (l'.map (·.1)) none k z.length).length == z.length) = true
      · rw [if_pos c] at q ⊢
        exact ⟨.str z, H4, I5, ⟨t, rfl⟩, q⟩
      · rw [if_neg c] at q hl2 ⊢
        exact ⟨hl2, .str _, H4, I5.tok _, ⟨_, rfl⟩, q⟩
    · cases ho
  · cases ho
end

/-! ### calls of built-ins with one argument -/
def semLen : Dat → Option Out
  | .lst ds => some (.val (.int ds.length))
  | .tup ds => some (.val (.int ds.length))
  | .str x => some (.val (.int x.length))
  | .dct ks _ => some (.val (.int ks.length))
  | _ => none
def semInt : Dat → Option Out
  | .int i => some (.val (.int i))
  | .bl b => some (.val (.int (if b then 1 else 0)))
  | _ => none
/-- the signs of a text -/
def signs (x : Str) : List Str := x.cps.toList.map fun c => ⟨#[c]⟩
def semList : Dat → Option Out
  | .lst ds => some (.fresh (.lst ds))
  | .tup ds => some (.fresh (.lst ds))
  | .str x => some (.fresh (.lst ((signs x).map .str)))
  | .dct ks _ => if ks.all flatK = true then some (.fresh (.lst ks)) else if ks.all tupK = true then some (.fresh (.lst ks)) else none
  | _ => none
/-- list(range(n)) -/
def semLrg : Dat → Option Out
  | .int n => if -(2 ^ 62) ≤ n ∧ n ≤ 1000000 then some (.fresh (.lst ((List.range n.toNat).map fun k => .int (0 + (k : Nat))))) else none
  | _ => none
def semTuple : Dat → Option Out
  | .lst ds => some (.val (.tup ds))
  | .tup ds => some (.val (.tup ds))
  | _ => none
def strsOf : List Dat → Option (List Str)
  | [] => some []
  | .str x :: r => (strsOf r).map (x :: ·)
  | _ => none
def intsOf : List Dat → Option (List Int)
  | [] => some []
  | .int x :: r => (intsOf r).map (x :: ·)
  | _ => none
theorem strsOf_map : ∀ xs : List Str, strsOf (xs.map .str) = some xs
  | [] => rfl
  | x :: r => by show (strsOf (r.map .str)).map (x :: ·) = _; rw [strsOf_map r]; rfl
theorem intsOf_map : ∀ xs : List Int, intsOf (xs.map .int) = some xs
  | [] => rfl
  | x :: r => by show (intsOf (r.map .int)).map (x :: ·) = _; rw [intsOf_map r]; rfl
theorem strsOf_eq : ∀ {ds : List Dat} {xs : List Str}, strsOf ds = some xs → ds = xs.map .str
  | [], xs, h => by cases h; rfl
  | .str x :: r, xs, h => by
    unfold strsOf at h
    cases q : strsOf r with
    | none => rw [q] at h; cases h
    | some ys => rw [q] at h; cases h; rw [strsOf_eq q]; rfl
  | .non :: r, xs, h => by cases h
  | .bl _ :: r, xs, h => by cases h
  | .int _ :: r, xs, h => by cases h
  | .tup _ :: r, xs, h => by cases h
  | .lst _ :: r, xs, h => by cases h
  | .dct _ _ :: r, xs, h => by cases h
  | .fn _ _ :: r, xs, h => by cases h
theorem intsOf_eq : ∀ {ds : List Dat} {xs : List Int}, intsOf ds = some xs → ds = xs.map .int
  | [], xs, h => by cases h; rfl
  | .int x :: r, xs, h => by
    unfold intsOf at h
    cases q : intsOf r with
    | none => rw [q] at h; cases h
    | some ys => rw [q] at h; cases h; rw [intsOf_eq q]; rfl
  | .non :: r, xs, h => by cases h
  | .bl _ :: r, xs, h => by cases h
  | .str _ :: r, xs, h => by cases h
  | .tup _ :: r, xs, h => by cases h
  | .lst _ :: r, xs, h => by cases h
  | .dct _ _ :: r, xs, h => by cases h
  | .fn _ _ :: r, xs, h => by cases h
/-- sorted(list of texts, or of ints) -/
def semSorted : Dat → Option Out
  | .lst ds => match strsOf ds with
    | some xs => some (.fresh (.lst ((sortS xs).map .str)))
    | none => match intsOf ds with
      | some xs => some (.fresh (.lst ((sortI xs).map .int)))
      | none => none
  | .dct ks _ => match strsOf ks with
    | some xs => if xs.length < 64 then some (.fresh (.lst ((sortS xs).map .str))) else none
    | none => none
  | .str x => some (.fresh (.lst ((sortS (signs x)).map .str)))
  | _ => none
/-- the built-in class of a datum -/
def tyD : Dat → String
  | .non => "NoneType"
  | .bl _ => "bool"
  | .int _ => "int"
  | .str _ => "str"
  | .tup _ => "tuple"
  | .lst _ => "list"
  | .dct _ _ => "dict"
  | .fn _ _ => "function"
def knownTy : Dat → Bool
  | .dct ks _ => ks.all flatK
  | .fn _ _ => false
  | _ => true
def semIsi (t : String) (d : Dat) : Option Out := if knownTy d = true then (kitB (tyD d) t).map fun b => .val (.bl b) else none
section
variable {X : Cx} {G : CK}
theorem ok_len : CallR X (.builtin "len") (rC1 (X.kw G) semLen) := by
  intro pins s σ H xs us Q I r h
  obtain ⟨x, rfl, F, d, o, sm, hd, ho, q⟩ := h
  unfold semLen at ho
  split at ho
  · cases ho
    obtain ⟨a, ys, rfl, hx, lx, r'⟩ := hd
    refine call_len_seq pins s σ H _ us Q I r ⟨a, ys, rfl, .inl hx, ?_⟩
    rw [← DenL.length r']
    exact q _ _ (new_int sm _)
  · cases ho
    obtain ⟨a, ys, rfl, hx, lx, r'⟩ := hd
    refine call_len_seq pins s σ H _ us Q I r ⟨a, ys, rfl, .inr (Same.seqT sm hx), ?_⟩
    rw [← DenL.length r']
    exact q _ _ (new_int sm _)
  · cases ho
    have hd : x = .str _ ∧ _ := hd
    exact call_len_str pins s σ H _ us Q I r ⟨_, by rw [hd.1], hd.2, q _ _ (new_int sm _)⟩
  · cases ho
    obtain ⟨u, rfl, ru⟩ := vals1 r
    exact d_len_ok I sm hd ru fun t s' I' => ⟨.int _, H, I', ⟨_, rfl⟩, q _ _ (new_int sm _)⟩
  · cases ho
theorem ok_int : CallR X (.type "int") (rC1 (X.kw G) semInt) := by
  intro pins s σ H xs us Q I r h
  obtain ⟨x, rfl, F, d, o, sm, hd, ho, q⟩ := h
  unfold semInt at ho
  split at ho
  · cases ho
    exact call_int1 pins s σ H _ us Q I r (.inl ⟨_, by rw [show x = _ from hd], q _ _ (new_int sm _)⟩)
  · cases ho
    exact call_int1 pins s σ H _ us Q I r (.inr ⟨_, by rw [show x = _ from hd], q _ _ (new_int sm _)⟩)
  · cases ho
theorem sign_vals {x : Str} {acc : Array Value} (h : ItemsOf (SignAt x) acc x.cps.size) : Vals ((signs x).map V.str) acc.toList := by
  have e : (signs x).map V.str = (List.range acc.toList.length).map fun j => V.str ⟨#[x.cps.toList.getD j 0]⟩ := by
    have hl : acc.toList.length = x.cps.toList.length := by rw [Array.length_toList, Array.length_toList]; exact h.1
    rw [hl]
    unfold signs
    rw [List.map_map]
    refine List.ext_getElem? fun i => ?_
    rw [List.getElem?_map, List.getElem?_map]
    by_cases hi : i < x.cps.toList.length
    · rw [List.getElem?_range hi, List.getElem?_eq_getElem hi]
      rw [Option.map_some, Option.map_some, Function.comp_apply, List.getD_eq_getElem?_getD, List.getElem?_eq_getElem hi]
      rfl
    · rw [List.getElem?_eq_none (by omega), List.getElem?_eq_none (by rw [List.length_range]; omega)]
      rfl
  rw [e]
  refine vals_of_get acc.toList _ fun j u hu => ?_
  have hu' : acc[j]? = some u := by rw [← Array.getElem?_toList]; exact hu
  have hj : j < x.cps.size := by
    have := (Array.getElem?_eq_some_iff.mp hu').1
    rw [← h.1]
    exact this
  have := h.2 j u hu'
  obtain ⟨c, t, hc, ht⟩ := this
  refine ⟨t, ?_⟩
  rw [ht]
  have e2 : x.cps.toList.getD j 0 = c := by
    rw [List.getD_eq_getElem?_getD, Array.getElem?_toList, hc]
    rfl
  rw [e2]
theorem call_list_dN (hc : X.calm = true) : CallR X (.type "list") (fun xs H Q => ∃ d ps, xs = [V.ref d] ∧ H d = some (DN X.w d ps) ∧ ∀ p, H p = none → Q (.ref p) (upd H p (.lst (ps.map fun p => V.ref p.2.1)))) := by
  intro pins s σ H xs us Q I r h
  obtain ⟨d, ps, rfl, hd, q⟩ := h
  obtain ⟨u, rfl, rx⟩ := vals1 r
  cases rx
  obtain ⟨z, hs, ks, pr, o, es, ep, ho, hx, hdt, he, hn⟩ := (I.hok d _ hd).1
  have l1 : es.size = ks.length := by rw [← Array.length_toList, he, List.length_map]
  have l2 : ps.length = ks.length := Paired.length pr
  refine PySem.W.kdl_call (kdl_raw hs hx hdt) (I.ok.hd hc) ho (by omega) fun h' tk acc' c' kp e it => ?_
  have ea : acc'.toList = ks.map fun x => Value.ref x.2.1 := by
    have hl : acc'.toList.length = ks.length := by rw [Array.length_toList, it.1]; exact l1
    apply List.ext_getElem?
    intro j
    rw [List.getElem?_map]
    cases hj : acc'.toList[j]? with
    | none =>
      have h1 := List.getElem?_eq_none_iff.mp hj
      rw [List.getElem?_eq_none (by omega)]
      rfl
    | some v =>
      obtain ⟨en, hen, hv⟩ := it.2 j v (by rw [← Array.getElem?_toList]; exact hj)
      have qe : es.toList[j]? = some en := by rw [Array.getElem?_toList]; exact hen
      rw [he, List.getElem?_map] at qe
      cases hb : ks[j]? with
      | none =>
        rw [hb] at qe
        cases qe
      | some b =>
        rw [hb] at qe
        have e2 : _ = en := Option.some.inj qe
        rw [hv, ← e2]
        rfl
  have rv : Vals (ps.map fun p => V.ref p.2.1) acc'.toList := by
    rw [ea]
    clear ea hn he l1 l2 z it q hd
    induction pr with
    | nil => exact Paired.nil
    | cons h t ih => exact Paired.cons (show Value.ref _ = Value.ref _ from by rw [h.2.1]) ih
  have hz : (ps.map fun p => V.ref p.2.1).length ≤ sizeLine := by rw [List.length_map]; omega
  refine ⟨.ref s.heap.objs.size, _, I.laid (t' := tk) (o := .lst (ps.map fun p => V.ref p.2.1)) kp (Nat.le_refl _) ?_, rfl, q _ (I.hok.fresh (Nat.le_refl _))⟩
  exact ⟨hz, acc'.toList, c', rv, by rw [Array.toArray_toList]; exact e⟩
theorem ok_list (hc : X.calm = true) : CallR X (.type "list") (rC1 (X.kw G) semList) := by
  intro pins s σ H xs us Q I r h
  obtain ⟨x, rfl, F, d, o, sm, hd, ho, q⟩ := h
  unfold semList at ho
  split at ho
  · cases ho
    obtain ⟨a, ys, rfl, hx, lx, r'⟩ := hd
    exact call_list_of pins s σ H _ us Q I r ⟨a, ys, rfl, .inl hx, fun p hp => q _ _ (NewOk.lst sm hp lx r')⟩
  · cases ho
    obtain ⟨a, ys, rfl, hx, lx, r'⟩ := hd
    exact call_list_of pins s σ H _ us Q I r ⟨a, ys, rfl, .inr (Same.seqT sm hx), fun p hp => q _ _ (NewOk.lst sm hp lx r')⟩
  · rename_i z
    cases ho
    have hd : x = .str z ∧ _ := hd
    obtain ⟨rfl, hz⟩ := hd
    obtain ⟨u, rfl, ru⟩ := vals1 r
    obtain ⟨t, rfl⟩ := ru
    have hl : ((signs z).map V.str).length ≤ sizeLine := by
      unfold signs
      rw [List.length_map, List.length_map, Array.length_toList]
      exact hz
    refine call_list_str (I.ok.hd hc) z t (fun h' tk acc' c' kp e hi => ?_) hz
    have I1 : Inv X pins σ (upd H s.heap.objs.size (.lst ((signs z).map V.str))) { s with heap := h', toks := tk } := I.laid kp (Nat.le_refl _) ⟨hl, acc'.toList, c', sign_vals hi, by simpa using e⟩
    refine ⟨.ref s.heap.objs.size, _, I1, rfl, q _ _ (NewOk.lst sm I.fresh hl (DenL.of_strs (signs z) fun n hn => ?_))⟩
    unfold signs at hn
    obtain ⟨c, _, rfl⟩ := List.mem_map.mp hn
    show (1 : Nat) ≤ sizeLine
    decide
  · split at ho
    · rename_i hf
      cases ho
      obtain ⟨a, w, ws, zs, rfl, ha, hd, q1, q2⟩ := hd
      obtain ⟨ps, rfl, rfl, rfl⟩ := hd.flat hf q1
      exact call_listD hc pins s σ H _ us Q I r ⟨a, ps, rfl, .inl ha, fun p hp => q _ _ (NewOk.lst sm hp hd.1 q1)⟩
    · split at ho
      · rename_i hnf hf
        cases ho
        obtain ⟨a, w, ws, zs, rfl, ha, hd, q1, q2⟩ := hd
        obtain ⟨hl, ⟨ps, rfl, rfl, rfl⟩ | ⟨ps, rfl, rfl, rfl, hn, ht, hne⟩⟩ := hd
        · exact absurd (keys_flat q1) hnf
        · exact call_list_dN hc pins s σ H _ us Q I r ⟨a, ps, rfl, ha, fun p hp => q _ _ (NewOk.lst sm hp hl q1)⟩
      · cases ho
  · cases ho
theorem ok_tuple : CallR X (.type "tuple") (rC1 (X.kw G) semTuple) := by
  intro pins s σ H xs us Q I r h
  obtain ⟨x, rfl, F, d, o, sm, hd, ho, q⟩ := h
  unfold semTuple at ho
  split at ho
  · cases ho
    obtain ⟨a, ys, rfl, hx, lx, r'⟩ := hd
    exact call_tuple_of pins s σ H _ us Q I r ⟨a, ys, rfl, .inl ⟨hx, fun p hp => q _ _ (NewOk.tup sm hp lx r')⟩⟩
  · cases ho
    obtain ⟨a, ys, rfl, hx, lx, r'⟩ := hd
    exact call_tuple_of pins s σ H _ us Q I r ⟨a, ys, rfl, .inr ⟨Same.seqT sm hx, q _ _ (NewOk.same sm ⟨a, ys, rfl, hx, lx, r'⟩)⟩⟩
  · cases ho
theorem cr_sortA : CallR X (.builtin "sorted") (fun vs H Q => ∃ (a : Addr) (xs : List Str), vs = [V.ref a] ∧ SqL (X.kw G) H a (xs.map V.str) ∧ ∀ (ys : List Str) (p : Addr), ys.Perm xs → sortedS ys = true → H p = none → Q (.ref p) (upd H p (.lst (ys.map V.str)))) := by
  intro pins s σ H vs us Q I r h
  obtain ⟨a, xs, rfl, hs, q⟩ := h
  obtain ⟨its, rv, hl, hz⟩ := I.list hs
  rw [Vals.ref1 r]
  have len := rv.length
  refine PyProof.Rows.sorted_strsAny hl.isList rv.strs (by rw [← len]; exact hz) fun out ys h1 h2 h3 => ?_
  obtain ⟨ep, he⟩ := PyProof.Rows.sortedAll_at s.heap its out
  have ln : (ys.map V.str).length ≤ sizeLine := by rw [List.length_map, h2.length_eq]; rw [List.length_map] at hz; exact hz
  exact ⟨.ref _, upd H (s.heap.objs.size + 1) (.lst (ys.map V.str)), I.laid (t' := s.toks) (fun _ _ => PyProof.Rows.sortedAll_old) (Nat.le_succ _) ⟨ln, out.toList, ep, vals_of_strs h1, he⟩, rfl, q ys _ h2 h3 (I.hok.fresh (Nat.le_succ _))⟩
theorem cr_sortI : CallR X (.builtin "sorted") (fun vs H Q => ∃ (a : Addr) (xs : List Int), vs = [V.ref a] ∧ SqL (X.kw G) H a (xs.map V.int) ∧ ∀ (ys : List Int) (p : Addr), ys.Perm xs → ys.Pairwise (· ≤ ·) → H p = none → Q (.ref p) (upd H p (.lst (ys.map V.int)))) := by
  intro pins s σ H vs us Q I r h
  obtain ⟨a, xs, rfl, hs, q⟩ := h
  obtain ⟨its, rv, hl, hz⟩ := I.list hs
  rw [Vals.ref1 r]
  have len := rv.length
  refine PyProof.Rows.sorted_intsAny hl.isList rv.ints (by rw [← len]; exact hz) fun out ys h1 h2 h3 => ?_
  obtain ⟨ep, he⟩ := PyProof.Rows.sortedAll_at s.heap its out
  have ln : (ys.map V.int).length ≤ sizeLine := by rw [List.length_map, h2.length_eq]; rw [List.length_map] at hz; exact hz
  exact ⟨.ref _, upd H (s.heap.objs.size + 1) (.lst (ys.map V.int)), I.laid (t' := s.toks) (fun _ _ => PyProof.Rows.sortedAll_old) (Nat.le_succ _) ⟨ln, out.toList, ep, vals_of_ints h1, he⟩, rfl, q ys _ h2 h3 (I.hok.fresh (Nat.le_succ _))⟩
theorem vals_strsAre : ∀ {ks : List Str} {us : List Value}, Vals (ks.map V.str) us → StrsAre us ks
  | [], us, r => by
    rw [List.map_nil] at r
    cases r
    exact .nil
  | k :: ks, us, r => by
    rw [List.map_cons] at r
    cases r with
    | cons h t =>
      obtain ⟨tk, rfl⟩ := h
      exact .cons k tk (vals_strsAre t)
/-- sorted(a text) -/
theorem cr_sortTx (hc : X.calm = true) : CallR X (.builtin "sorted") (fun vs H Q => ∃ z : Str, vs = [V.str z] ∧ z.length ≤ sizeLine ∧ ∀ p, H p = none → Q (.ref p) (upd H p (.lst ((sortS (signs z)).map V.str)))) := by
  intro pins s σ H vs us Q I r h
  obtain ⟨z, rfl, hz, q⟩ := h
  obtain ⟨u, rfl, ru⟩ := vals1 r
  obtain ⟨t, rfl⟩ := ru
  refine Calls.call_function_entry kind_sorted plain_sorted entry_sorted (args_sorted1 _) ?_
  (unfold Builtin.«sorted»); (refine wpAny_bind (m := checkCount "sorted" 1 1 _) (wpAny_pure ?_))
  refine wpAny_bind (wpAny_collect_str (A := X.A.in1) (I.ok.hd hc) z t (fun s1 acc kp e1 e2 e3 hi => ?_) hz)
  have es : s1 = { s with heap := s1.heap, toks := s1.toks } := by
    cases s1
    cases s
    cases e1
    cases e2
    cases e3
    rfl
  have I1 : Inv X pins σ H s1 := by
    rw [es]
    exact I.kept kp
  have hS : StrsAre acc.toList (signs z) := vals_strsAre (sign_vals hi)
  have hL : acc.toList.length ≤ sizeLine := by rw [Array.length_toList, hi.1]; exact hz
  refine wpAny_bind (wpAny_newList ?_ hL)
  have gL : (s1.heap.push (seqObj "list" acc.toList.toArray 0)).get? s1.heap.objs.size = some (seqObj "list" acc.toList.toArray 0) := Heap.get?_push_size _ rfl
  refine wpAny_bind (wpAny_holding (wpAny_call_entry slot_list_sort ⟨_, gL, rfl⟩ entry_list_sort
    (list_sort_treeKAny PyProof.Rows.strKind_oneLt (s := { s1 with heap := s1.heap.push (seqObj "list" acc.toList.toArray 0) }) gL hS.keysOf (fun v₁ v₂ rest e => keyKind_strs (by rw [← e]; exact hS)) hL fun st' hp hs => ⟨_, rfl, ?_⟩) (args_list_sort _)))
  obtain ⟨zs, z1, z2, z3⟩ := sorted_out_str hS hp hs
  have ez : zs = sortS (signs z) := sortS_of z2 z3
  subst ez
  obtain ⟨c, gc⟩ := sortedHeap_at (vs := acc.toList) (out := (arrOf st').map (·.2)) gL
  have hlen : ((sortS (signs z)).map V.str).length ≤ sizeLine := by rw [List.length_map, z2.length_eq, ← hS.length]; exact hL
  refine wpAny_pure ⟨_, rfl, .ref s1.heap.objs.size, upd H s1.heap.objs.size (.lst ((sortS (signs z)).map V.str)), I1.laid (t' := s1.toks) (fun b u e => ?_) (Nat.le_refl _) ⟨hlen, ((arrOf st').map (·.2)).toList, c, vals_of_strs z1, by rw [Array.toArray_toList]; exact gc⟩, rfl, q _ (I1.hok.fresh (Nat.le_refl _))⟩
  have lt := Heap.lt_size e
  rw [sortedHeap_old (Nat.ne_of_lt lt) (by rw [size_push']; exact Nat.lt_succ_of_lt lt)]
  exact Heap.get?_push_of_some _ e
theorem strs_flatK : ∀ ys : List Str, (ys.map Dat.str).all flatK = true
  | [] => rfl
  | y :: ys => by rw [List.map_cons, List.all_cons, strs_flatK ys]; rfl
theorem ok_sorted (hcm : X.calm = true) : CallR X (.builtin "sorted") (rC1 (X.kw G) semSorted) := by
  intro pins s σ H xs us Q I r h
  obtain ⟨x, rfl, F, d, o, sm, hd, ho, q⟩ := h
  unfold semSorted at ho
  split at ho
  · split at ho
    · rename_i ds _ ys hs
      cases ho
      have e := strsOf_eq hs
      subst e
      obtain ⟨a, vs, rfl, hx, lx, r'⟩ := hd
      obtain ⟨e1, e2⟩ := DenL.strs r'
      subst e1
      refine cr_sortA pins s σ H _ us Q I r ⟨a, ys, rfl, hx, fun zs p pm so hp => ?_⟩
      have ez := sortS_of pm so
      subst ez
      exact q _ _ (NewOk.lst sm hp (by rw [List.length_map, (sortS_perm ys).length_eq]; rw [List.length_map] at lx; exact lx) (DenL.of_strs _ fun n hn => e2 n ((sortS_perm ys).mem_iff.mp hn)))
    · split at ho
      · rename_i ds _ _ ys hs
        cases ho
        have e := intsOf_eq hs
        subst e
        obtain ⟨a, vs, rfl, hx, lx, r'⟩ := hd
        have e1 := DenL.ints r'
        subst e1
        refine cr_sortI pins s σ H _ us Q I r ⟨a, ys, rfl, hx, fun zs p pm so hp => ?_⟩
        have ez := sortI_of pm so
        subst ez
        exact q _ _ (NewOk.lst sm hp (by rw [List.length_map, (sortI_perm ys).length_eq]; rw [List.length_map] at lx; exact lx) (DenL.of_ints _))
      · cases ho
  · split at ho
    · rename_i ks _ _ ys hs
      split at ho
      · rename_i hl
        cases ho
        have e := strsOf_eq hs
        subst e
        obtain ⟨a, w, ws, zs, rfl, ha, hd, q1, q2⟩ := hd
        obtain ⟨ps, rfl, hw, rfl⟩ := hd.flat (strs_flatK ys) q1
        obtain ⟨e1, e2⟩ := DenL.strs q1
        have hks : ps.map (·.1) = ys.map Sum.inr := kVs_inj (by rw [List.map_map, List.map_map]; exact hw.symm.trans e1)
        refine call_sortedD hcm pins s σ H _ us Q I r ⟨a, ps, ys, rfl, .inl ha, hks, hl, fun zs' p pm so hp => ?_⟩
        have ez := sortS_of pm so
        subst ez
        exact q _ _ (NewOk.lst sm hp (by rw [List.length_map, (sortS_perm ys).length_eq, sizeLine_eq]; omega) (DenL.of_strs _ fun n hn => e2 n ((sortS_perm ys).mem_iff.mp hn)))
      · cases ho
    · cases ho
  · rename_i z
    cases ho
    obtain ⟨rfl, hz⟩ := hd
    refine cr_sortTx hcm pins s σ H _ us Q I r ⟨z, rfl, hz, fun p hp => q _ _ (NewOk.lst sm hp ?_ (DenL.of_strs _ fun n hn => ?_))⟩
    · rw [List.length_map, (sortS_perm _).length_eq]
      unfold signs
      rw [List.length_map, Array.length_toList]
      exact hz
    · have hn := (sortS_perm _).mem_iff.mp hn
      unfold signs at hn
      obtain ⟨c, _, rfl⟩ := List.mem_map.mp hn
      show (1 : Nat) ≤ sizeLine
      decide
  · cases ho
theorem Seen.tyx {F H : Hp} {K : Kw} (sm : Same F H) {d : Dat} {x : V} (hkn : knownTy d = true) (h : Seen K F H d x) : TyX K H x (.type (tyD d)) := by
  cases d with
  | non => rw [show x = _ from h]; exact .base .non
  | bl b => rw [show x = _ from h]; exact .base (.bl b)
  | int i => rw [show x = _ from h]; exact .base (.int i)
  | str z => rw [h.1]; exact .base (.str z)
  | tup ds =>
    obtain ⟨a, ys, rfl, hx, lx, r'⟩ := h
    rcases Same.seqT sm hx with (hx | ⟨ob, hx⟩) | ⟨ob, its, n, hk, hc, _⟩
    · exact .base (.tup hx)
    · exact .fTuple hx
    · exact .kTuple hk hc
  | lst ds =>
    obtain ⟨a, ys, rfl, hx, lx, r'⟩ := h
    rcases hx with (hx | ⟨ob, hx⟩) | ⟨ob, its, n, hk, hc, _⟩
    · exact .base (.lst hx)
    · exact .base (.frz hx)
    · exact .kList hk hc
  | dct ks vs =>
    obtain ⟨a, w, ws, zs, rfl, ha, hd, q1, q2⟩ := h
    obtain ⟨ps, rfl, _, _⟩ := hd.flat hkn q1
    exact .base (.dK ha)
  | fn c ds => cases hkn
/-- isinstance(x, T), T a built-in class -/
theorem ok_isi (t : String) : CallR X (.builtin "isinstance") (fun xs H Q => ∃ x, xs = [x, .ty t] ∧ rD1 (X.kw G) (semIsi t) x H Q) := by
  intro pins s σ H xs us Q I r h
  obtain ⟨x, rfl, F, d, o, sm, hd, ho, q⟩ := h
  unfold semIsi at ho
  by_cases hkn : knownTy d = true
  case neg => rw [if_neg hkn] at ho; cases ho
  rw [if_pos hkn] at ho
  cases hb : kitB (tyD d) t with
  | none => rw [hb] at ho; cases ho
  | some b =>
    rw [hb] at ho
    cases ho
    exact call_isi pins s σ H _ us Q I r ⟨x, .ty t, _, _, b, rfl, .ty t, Seen.tyx sm hkn hd, kit_ty hb, q _ _ (new_bl sm _)⟩
end

/-! ### methods of texts -/
def semIndex : Dat → Dat → Option Out
  | .str x, .str y => (Txt.index0 x y).map fun k => .val (.int (k : Nat))
  | _, _ => none
def semJoin : Dat → Dat → Option Out
  | .str a, .lst ds => match strsOf ds with
    | some ys => if (ys.map (·.length)).sum + ys.length * a.length ≤ sizeLine then some (.val (.str (Txt.join a ys))) else none
    | none => none
  | _, _ => none
theorem joinL_len (s : List Nat) : ∀ ps : List (List Nat), (TL.joinL s ps).length ≤ (ps.map (·.length)).sum + ps.length * s.length
  | [] => by simp [TL.joinL]
  | [p] => by simp [TL.joinL]
  | p :: q :: r => by
    have ih := joinL_len s (q :: r)
    show (p ++ (s ++ TL.joinL s (q :: r))).length ≤ _
    rw [List.length_append, List.length_append, List.map_cons, List.sum_cons, List.length_cons, Nat.succ_mul]
    omega
theorem join_len (a : Str) (ys : List Str) : (Txt.join a ys).length ≤ (ys.map (·.length)).sum + ys.length * a.length := by
  rw [TL.len_tl, TL.join_eq, TL.tl_join]
  have h := joinL_len (TL.tl a) (ys.map TL.tl)
  rw [List.length_map, List.map_map] at h
  have e : ys.map ((fun x => x.length) ∘ TL.tl) = ys.map (·.length) := List.map_congr_left fun y _ => (TL.len_tl y).symm
  rw [e, ← TL.len_tl a] at h
  exact h
section
variable {X : Cx} {G : CK}
theorem ok_index : MtR X "str.index" (rM1 (X.kw G) semIndex) := by
  intro pins s σ H x xs v us Q I rx rs h
  obtain ⟨y, rfl, F, d, e, o, sm, hd, he, ho, q⟩ := h
  unfold semIndex at ho
  split at ho
  · rename_i x' y'
    cases hk : Txt.index0 x' y' with
    | none => rw [hk] at ho; cases ho
    | some k =>
      rw [hk] at ho
      cases ho
      have hd : x = .str x' ∧ _ := hd
      have he : y = .str y' ∧ _ := he
      obtain ⟨rfl, _⟩ := hd
      obtain ⟨rfl, _⟩ := he
      obtain ⟨u, rfl, ru⟩ := vals1 rs
      obtain ⟨t, rfl⟩ := rx
      obtain ⟨t', rfl⟩ := ru
      unfold Txt.index0 at hk
      cases ho2 : Builtin.Str.occurrences x' y' 0 x'.length 1 with
      | nil => rw [ho2] at hk; cases hk
      | cons k' rest =>
        rw [ho2] at hk
        cases hk
        exact PySem.SC.index ho2 ⟨.int (k : Nat), H, I.tok _, ⟨_, rfl⟩, q _ _ (new_int sm _)⟩
  · cases ho
theorem ok_join : MtR X "str.join" (rM1 (X.kw G) semJoin) := by
  intro pins s σ H x xs v us Q I rx rs h
  obtain ⟨y, rfl, F, d, e, o, sm, hd, he, ho, q⟩ := h
  unfold semJoin at ho
  split at ho
  · rename_i a ds
    split at ho
    · rename_i ys hs
      split at ho
      · rename_i hl
        cases ho
        have hd : x = .str a ∧ _ := hd
        have ed := strsOf_eq hs
        subst ed
        obtain ⟨p, vs, rfl, hx, lx, r'⟩ := he
        obtain ⟨e1, e2⟩ := DenL.strs r'
        subst e1
        have hsz : sizeLine = 16777216 := sizeLine_eq
        exact mt_join pins s σ H x _ v us Q I rx rs ⟨a, p, ys, hd.1, rfl, .inl hx, by omega, q _ _ (new_str sm (Nat.le_trans (join_len a ys) hl))⟩
      · cases ho
    · cases ho
  · cases ho
end
end Dl

/-! Z3: set(xs), len(set(xs)), sorted(set(xs)) as rules of the layer. -/
namespace Dl
open PySem PySem.Spec PyProof.Rows L2

def kfS (v : Value) : Str := match v with
  | .str x _ => x
  | _ => ⟨#[]⟩
def kfI (v : Value) : Int := match v with
  | .int x _ => x
  | _ => 0
theorem kfS_is (P : Program) (w : World) (k : Str) (v : Value) (h : (PySem.strKind P w).is k v = true) : kfS v = k := by
  obtain ⟨t, rfl⟩ := Value.isStrOf_shape h
  rfl
section
variable {X : Cx} {G : CK} {K : Type} [DecidableEq K] {knd : PySem.KeyKind X.prog X.w K} {kf : Value → K}
def SetH (knd : PySem.KeyKind X.prog X.w K) (kf : Value → K) (a : Addr) (ks : List K) : HO := .ext fun h => SetG knd kf h a ks
theorem setH_new {H : Hp} {h : Heap} {a : Addr} {ks : List K} (R : SetG knd kf h a ks) : ObjOk X.prog X.w H h a (SetH knd kf a ks) := by
  have ⟨o, _, _, _, ho, _⟩ := R
  exact ⟨R, ⟨o, ho⟩, fun h1 h2 p k => SetG.at p k⟩
theorem setH_get {pins : List (Addr × Obj)} {σ : L2.St} {H : Hp} {s : Shared} {a : Addr} {ks : List K} (I : Inv X pins σ H s) (ha : H a = some (SetH knd kf a ks)) : SetG knd kf s.heap a ks := (I.hok a _ ha).1
end
section
variable {X : Cx} {G : CK}
/-- set(a list of texts) -/
def rSetS (X : Cx) : List V → Hp → VK → Prop := fun vs H Q => ∃ (a : Addr) (xs : List Str), vs = [.ref a] ∧ SqL X.K H a (xs.map V.str) ∧ xs.length + 1 < scanBound ∧ ∀ p, H p = none → Q (.ref p) (upd H p (SetH (PySem.strKind X.prog X.w) kfS p (dd xs)))
theorem cr_setS (hc : X.calm = true) : CallR X (.type "set") (rSetS X) := by
  intro pins s σ H vs us Q I r h
  obtain ⟨a, xs, rfl, hs, hb, q⟩ := h
  rw [Vals.ref1 r]
  obtain ⟨its, rv, p, _⟩ := I.list hs
  have hl := rv.length
  rw [List.length_map] at hl
  refine call_setG (knd := PySem.strKind X.prog X.w) (kf := kfS) (kfS_is X.prog X.w) (I.ok.hd hc) p.isList (xs := xs) (by rw [hl]; simp) hb (fun i v e => ?_) fun h' tk g kp => ?_
  · have e' : its[i]? = some v := by simpa using e
    obtain ⟨x, ex, rx⟩ := Kd.vals_back rv e'
    rw [List.getElem?_map] at ex
    cases hx : xs[i]? with
    | none => rw [hx] at ex; cases ex
    | some y =>
      rw [hx] at ex
      cases ex
      obtain ⟨t, rfl⟩ := rx
      exact ⟨y, rfl, strKind_is _ _ _ _, rfl⟩
  · exact ⟨.ref s.heap.objs.size, _, I.laid (t' := tk) kp (Nat.le_refl _) (setH_new g), rfl, q _ (I.hok.fresh (Nat.le_refl _))⟩
/-- sorted(a set of texts) -/
def rSortSS (X : Cx) : List V → Hp → VK → Prop := fun vs H Q => ∃ (a : Addr) (ks : List Str), vs = [.ref a] ∧ H a = some (SetH (PySem.strKind X.prog X.w) kfS a ks) ∧ ∀ p, H p = none → Q (.ref p) (upd H p (.lst ((sortS ks).map V.str)))
theorem strsAre_kf : ∀ (vs : List Value), (∀ v ∈ vs, ∃ k t, v = Value.str k t) → StrsAre vs (vs.map kfS)
  | [], _ => .nil
  | v :: vs, h => by
    obtain ⟨k, t, rfl⟩ := h v List.mem_cons_self
    exact .cons k t (strsAre_kf vs fun u hu => h u (List.mem_cons_of_mem _ hu))
theorem cr_sortSS (hc : X.calm = true) : CallR X (.builtin "sorted") (rSortSS X) := by
  intro pins s σ H vs us Q I r h
  obtain ⟨a, ks, rfl, ha, q⟩ := h
  rw [Vals.ref1 r]
  obtain ⟨o, es, ep, t, ho, hx, hd, el, pm, nd, sb, ft, rs, ld⟩ := setH_get I ha
  refine Calls.call_function_entry kind_sorted plain_sorted entry_sorted (args_sorted1 _) ?_
  (unfold Builtin.«sorted»); (refine wpAny_bind (m := checkCount "sorted" 1 1 _) (wpAny_pure ?_))
  refine wpAny_bind (collect_set (A := X.A.in1) (I.ok.hd hc) ⟨o, ho, hx.1, hd⟩ ft sb rs ld fun s1 vs kp hz g1 o1 pv => ?_)
  have hS : StrsAre vs (vs.map kfS) := strsAre_kf vs fun v hv => by
    obtain ⟨e, he, rfl⟩ := List.mem_map.mp (pv.mem_iff.mp hv)
    obtain ⟨⟨k, hk, _⟩, _⟩ := el e he
    obtain ⟨u, eu⟩ := Value.isStrOf_shape hk
    exact ⟨k, u, eu⟩
  have pk : (vs.map kfS).Perm ks := by
    refine (pv.map kfS).trans ?_
    rw [List.map_map]
    exact pm
  have szv : vs.length = es.size := by rw [pv.length_eq, List.length_map, Array.length_toList]
  have hL : vs.length ≤ sizeLine := by rw [szv]; exact fits_of_scanBound sb
  refine wpAny_bind (wpAny_newList ?_ hL)
  have gL : (s1.heap.push (seqObj "list" vs.toArray 0)).get? s1.heap.objs.size = some (seqObj "list" vs.toArray 0) := Heap.get?_push_size _ rfl
  refine wpAny_bind (wpAny_holding (wpAny_call_entry slot_list_sort ⟨_, gL, rfl⟩ entry_list_sort
    (list_sort_treeKAny PyProof.Rows.strKind_oneLt (s := { s1 with heap := s1.heap.push (seqObj "list" vs.toArray 0) }) gL hS.keysOf (fun v₁ v₂ rest e => keyKind_strs (by rw [← e]; exact hS)) hL fun st' hp hs => ⟨_, rfl, ?_⟩) (args_list_sort _)))
  obtain ⟨zs, z1, z2, z3⟩ := sorted_out_str hS hp hs
  have ez : zs = sortS ks := sortS_of (z2.trans pk) z3
  subst ez
  obtain ⟨c, gc⟩ := sortedHeap_at (vs := vs) (out := (arrOf st').map (·.2)) gL
  have hn : H s1.heap.objs.size = none := I.hok.fresh hz
  have kp2 : ∀ b u, s.heap.get? b = some u → (sortedHeap (s1.heap.push (seqObj "list" vs.toArray 0)) s1.heap.objs.size vs ((arrOf st').map (·.2))).get? b = some u := fun b u e => by
    have lt := Heap.lt_size (kp b u e)
    rw [sortedHeap_old (Nat.ne_of_lt lt) (by rw [size_push']; exact Nat.lt_succ_of_lt lt)]
    exact Heap.get?_push_of_some _ (kp b u e)
  have hlen : ((sortS ks).map V.str).length ≤ sizeLine := by rw [List.length_map, z2.length_eq, List.length_map]; exact hL
  have J : Inv X pins σ (upd H s1.heap.objs.size (.lst ((sortS ks).map V.str))) { s with heap := sortedHeap (s1.heap.push (seqObj "list" vs.toArray 0)) s1.heap.objs.size vs ((arrOf st').map (·.2)), gens := s1.gens, drawn := s1.drawn, toks := s1.toks } :=
    I.call (ch := []) (Un.laid kp2 hz hn) (I.hok.laid kp2 hz ⟨hlen, ((arrOf st').map (·.2)).toList, c, vals_of_strs z1, by rw [Array.toArray_toList]; exact gc⟩) (by rw [g1]; exact I.bare) (fun _ z => nomatch z)
  refine wpAny_pure ⟨_, rfl, .ref s1.heap.objs.size, _, ?_, rfl, q _ hn⟩
  have eo : s1.os = s.os := o1
  have e : ({ s1 with heap := sortedHeap (s1.heap.push (seqObj "list" vs.toArray 0)) s1.heap.objs.size vs ((arrOf st').map (·.2)) } : Shared) = { s with heap := sortedHeap (s1.heap.push (seqObj "list" vs.toArray 0)) s1.heap.objs.size vs ((arrOf st').map (·.2)), gens := s1.gens, drawn := s1.drawn, toks := s1.toks } := by
    cases s1
    cases s
    cases eo
    rfl
  rw [← e] at J
  exact J
/-- sorted(set(xs)), texts -/
def semSset : Dat → Option Out
  | .lst ds => match strsOf ds with
    | some xs => if xs.length + 1 < scanBound then some (.fresh (.lst ((sortS (dd xs)).map .str))) else none
    | none => none
  | _ => none
theorem sset_rule {F H : Hp} {x : V} {Q : VK} (h : rD1 (X.kw G) semSset x H Q) : rSetS X [x] H fun v H1 => rSortSS X [v] H1 Q := by
  obtain ⟨F, d, o, sm, hd, ho, q⟩ := h
  unfold semSset at ho
  split at ho
  · split at ho
    · rename_i ds _ ys hs
      split at ho
      · rename_i hl
        cases ho
        have e := strsOf_eq hs
        subst e
        obtain ⟨a, vs, rfl, hx, lx, r'⟩ := hd
        obtain ⟨e1, e2⟩ := DenL.strs r'
        subst e1
        refine ⟨a, ys, rfl, hx, hl, fun p hp => ⟨p, dd ys, rfl, upd_same, fun p' hp' => ?_⟩⟩
        have ne : p' ≠ p := fun z => by subst z; rw [upd_same] at hp'; cases hp'
        have hn : H p' = none := by rw [upd_ne ne] at hp'; exact hp'
        have s1 : Same H (upd H p (SetH (PySem.strKind X.prog X.w) kfS p (dd ys))) := same_upd hp
        have s2 := same_upd (o := .lst ((sortS (dd ys)).map V.str)) hp'
        refine q _ _ ⟨F, p', New.of (Same.refl F) ((sm.trans s1).trans s2) (s1.trans s2) (fun _ _ z => .inl z), rfl, hn, sm.free hn, _, upd_same, ?_, DenL.of_strs _ fun n hn => ?_⟩
        · rw [List.length_map, (sortS_perm _).length_eq]
          have := dd_len ys
          have hz : scanBound = 4096 := rfl
          have hq : sizeLine = 16777216 := sizeLine_eq
          omega
        · exact e2 n ((dd_mem ys).mp ((sortS_perm _).mem_iff.mp hn))
      · cases ho
    · cases ho
  · cases ho
/-- len(a set) -/
theorem cr_lenS : CallR X (.builtin "len") (fun vs H Q => ∃ (a : Addr) (ks : List Str), vs = [.ref a] ∧ H a = some (SetH (PySem.strKind X.prog X.w) kfS a ks) ∧ Q (.int ks.length) H) := by
  intro pins s σ H vs us Q I r h
  obtain ⟨a, ks, rfl, ha, q⟩ := h
  rw [Vals.ref1 r]
  obtain ⟨o, es, ep, t, ho, hx, hd, el, pm, nd, sb, ft, rs, ld⟩ := setH_get I ha
  have sz : es.size = ks.length := by rw [← pm.length_eq, List.length_map, Array.length_toList]
  refine call_len_set ho hx hd ft ?_ ⟨.int ks.length, H, I.tok _, ⟨_, by rw [sz]⟩, q⟩
  have := fits_of_scanBound sb
  rw [sizeLine_eq] at this
  omega
/-! ### further built-ins -/
def semAbs : Dat → Option Out
  | .int i => some (.val (.int (if i < 0 then -i else i)))
  | _ => none
def semSum : Dat → Option Out
  | .lst ds => (intsOf ds).map fun ns => .val (.int ns.sum)
  | _ => none
def blsOf : List Dat → Option (List Bool)
  | [] => some []
  | .bl x :: r => (blsOf r).map (x :: ·)
  | _ => none
theorem blsOf_eq : ∀ {ds : List Dat} {xs : List Bool}, blsOf ds = some xs → ds = xs.map .bl
  | [], xs, h => by cases h; rfl
  | d :: r, xs, h => by
    cases d with
    | bl x =>
      unfold blsOf at h
      cases q : blsOf r with
      | none => rw [q] at h; cases h
      | some ys => rw [q] at h; cases h; rw [blsOf_eq q]; rfl
    | _ => cases h
def semAll : Dat → Option Out
  | .lst ds => (blsOf ds).map fun bs => .val (.bl (bs.all id))
  | _ => none
/-- the most and the least of ints -/
def mostI : List Int → Int
  | [] => 0
  | [x] => x
  | x :: y :: r => max x (mostI (y :: r))
def leastI : List Int → Int
  | [] => 0
  | [x] => x
  | x :: y :: r => min x (leastI (y :: r))
theorem mostI_mem : ∀ {l : List Int}, l ≠ [] → mostI l ∈ l ∧ ∀ y ∈ l, y ≤ mostI l
  | [], h => absurd rfl h
  | [x], _ => ⟨List.mem_cons_self, fun y hy => by rw [List.mem_singleton.mp hy]; exact Int.le_refl _⟩
  | x :: y :: r, _ => by
    obtain ⟨h1, h2⟩ := mostI_mem (l := y :: r) (by simp)
    unfold mostI
    refine ⟨?_, fun z hz => ?_⟩
    · rw [Int.max_def]
      split
      · exact List.mem_cons_of_mem _ h1
      · exact List.mem_cons_self
    · rcases List.mem_cons.mp hz with rfl | hz
      · exact Int.le_max_left _ _
      · exact Int.le_trans (h2 z hz) (Int.le_max_right _ _)
theorem leastI_mem : ∀ {l : List Int}, l ≠ [] → leastI l ∈ l ∧ ∀ y ∈ l, leastI l ≤ y
  | [], h => absurd rfl h
  | [x], _ => ⟨List.mem_cons_self, fun y hy => by rw [List.mem_singleton.mp hy]; exact Int.le_refl _⟩
  | x :: y :: r, _ => by
    obtain ⟨h1, h2⟩ := leastI_mem (l := y :: r) (by simp)
    unfold leastI
    refine ⟨?_, fun z hz => ?_⟩
    · rw [Int.min_def]
      split
      · exact List.mem_cons_self
      · exact List.mem_cons_of_mem _ h1
    · rcases List.mem_cons.mp hz with rfl | hz
      · exact Int.min_le_left _ _
      · exact Int.le_trans (Int.min_le_right _ _) (h2 z hz)
def semMaxL : Dat → Option Out
  | .lst ds => match intsOf ds with
    | some (n :: ns) => some (.val (.int (mostI (n :: ns))))
    | _ => none
  | _ => none
def semMinL : Dat → Option Out
  | .lst ds => match intsOf ds with
    | some (n :: ns) => some (.val (.int (leastI (n :: ns))))
    | _ => none
  | _ => none
def semMin2 : Dat → Dat → Option Out
  | .int i, .int j => some (.val (.int (if j < i then j else i)))
  | _, _ => none
def semMax2 : Dat → Dat → Option Out
  | .int i, .int j => some (.val (.int (if j > i then j else i)))
  | _, _ => none
theorem ok_abs : CallR X (.builtin "abs") (rC1 (X.kw G) semAbs) := by
  intro pins s σ H xs us Q I r h
  obtain ⟨x, rfl, F, d, o, sm, hd, ho, q⟩ := h
  unfold semAbs at ho
  split at ho
  · cases ho
    exact call_abs pins s σ H _ us Q I r ⟨_, by rw [show x = V.int _ from hd], q _ _ (new_int sm _)⟩
  · cases ho
theorem ok_sum (hc : X.calm = true) : CallR X (.builtin "sum") (rC1 (X.kw G) semSum) := by
  intro pins s σ H xs us Q I r h
  obtain ⟨x, rfl, F, d, o, sm, hd, ho, q⟩ := h
  unfold semSum at ho
  split at ho
  · rename_i ds
    cases hn : intsOf ds with
    | none => rw [hn] at ho; cases ho
    | some ns =>
      rw [hn] at ho
      cases ho
      have e := intsOf_eq hn
      subst e
      obtain ⟨a, vs, rfl, hx, lx, r'⟩ := hd
      have e1 := DenL.ints r'
      subst e1
      exact cr_sum hc pins s σ H _ us Q I r ⟨a, ns, rfl, hx, q _ _ (new_int sm _)⟩
  · cases ho
theorem ok_all (hc : X.calm = true) : CallR X (.builtin "all") (rC1 (X.kw G) semAll) := by
  intro pins s σ H xs us Q I r h
  obtain ⟨x, rfl, F, d, o, sm, hd, ho, q⟩ := h
  unfold semAll at ho
  split at ho
  · rename_i ds
    cases hn : blsOf ds with
    | none => rw [hn] at ho; cases ho
    | some ns =>
      rw [hn] at ho
      cases ho
      have e := blsOf_eq hn
      subst e
      obtain ⟨a, vs, rfl, hx, lx, r'⟩ := hd
      have e1 := DenL.bls r'
      subst e1
      exact cr_all hc pins s σ H _ us Q I r ⟨a, ns, rfl, hx, q _ _ (new_bl sm _)⟩
  · cases ho
theorem ok_maxL (hc : X.calm = true) : CallR X (.builtin "max") (rC1 (X.kw G) semMaxL) := by
  intro pins s σ H xs us Q I r h
  obtain ⟨x, rfl, F, d, o, sm, hd, ho, q⟩ := h
  unfold semMaxL at ho
  split at ho
  · split at ho
    · rename_i n ns hn
      cases ho
      have e := intsOf_eq hn
      subst e
      obtain ⟨a, vs, rfl, hx, lx, r'⟩ := hd
      have e1 := DenL.ints r'
      subst e1
      obtain ⟨m1, m2⟩ := mostI_mem (l := n :: ns) (by simp)
      refine cr_max hc pins s σ H _ us Q I r ⟨a, n :: ns, rfl, hx, by simp, fun m h1 h2 => ?_⟩
      have em : m = mostI (n :: ns) := Int.le_antisymm (m2 m h1) (h2 _ m1)
      rw [em]
      exact q _ _ (new_int sm _)
    · cases ho
  · cases ho
theorem ok_minL (hc : X.calm = true) : CallR X (.builtin "min") (rC1 (X.kw G) semMinL) := by
  intro pins s σ H xs us Q I r h
  obtain ⟨x, rfl, F, d, o, sm, hd, ho, q⟩ := h
  unfold semMinL at ho
  split at ho
  · split at ho
    · rename_i n ns hn
      cases ho
      have e := intsOf_eq hn
      subst e
      obtain ⟨a, vs, rfl, hx, lx, r'⟩ := hd
      have e1 := DenL.ints r'
      subst e1
      obtain ⟨m1, m2⟩ := leastI_mem (l := n :: ns) (by simp)
      refine cr_min hc pins s σ H _ us Q I r ⟨a, n :: ns, rfl, hx, by simp, fun m h1 h2 => ?_⟩
      have em : m = leastI (n :: ns) := Int.le_antisymm (h2 _ m1) (m2 m h1)
      rw [em]
      exact q _ _ (new_int sm _)
    · cases ho
  · cases ho
theorem ok_min2 (hc : X.calm = true) : CallR X (.builtin "min") (rC2 (X.kw G) semMin2) := by
  intro pins s σ H xs us Q I r h
  obtain ⟨x, y, rfl, F, d, e, o, sm, hd, he, ho, q⟩ := h
  unfold semMin2 at ho
  split at ho
  · cases ho
    exact call_min2 hc pins s σ H _ us Q I r ⟨_, _, by rw [show x = V.int _ from hd, show y = V.int _ from he], q _ _ (new_int sm _)⟩
  · cases ho
theorem ok_max2 (hc : X.calm = true) : CallR X (.builtin "max") (rC2 (X.kw G) semMax2) := by
  intro pins s σ H xs us Q I r h
  obtain ⟨x, y, rfl, F, d, e, o, sm, hd, he, ho, q⟩ := h
  unfold semMax2 at ho
  split at ho
  · cases ho
    exact call_max2 hc pins s σ H _ us Q I r ⟨_, _, by rw [show x = V.int _ from hd, show y = V.int _ from he], q _ _ (new_int sm _)⟩
  · cases ho
end
end Dl

/-! Z5: sets of whole numbers; dict(pairs). -/
namespace Dl
open PySem PySem.Spec PyProof.Rows L2
theorem kfI_is (P : Program) (w : World) (k : Int) (v : Value) (h : (PySem.intKind P w).is k v = true) : kfI v = k := by
  have h : v.isInt k = true := h
  cases v with
  | int x t =>
    have h : (x == k) = true := h
    exact eq_of_beq h
  | _ => cases h
section
variable {X : Cx} {G : CK}
/-- set(a list of whole numbers) -/
def rSetI (X : Cx) : List V → Hp → VK → Prop := fun vs H Q => ∃ (a : Addr) (xs : List Int), vs = [.ref a] ∧ SqL X.K H a (xs.map V.int) ∧ xs.length + 1 < scanBound ∧ ∀ p, H p = none → Q (.ref p) (upd H p (SetH (PySem.intKind X.prog X.w) kfI p (dd xs)))
theorem cr_setI (hc : X.calm = true) : CallR X (.type "set") (rSetI X) := by
  intro pins s σ H vs us Q I r h
  obtain ⟨a, xs, rfl, hs, hb, q⟩ := h
  rw [Vals.ref1 r]
  obtain ⟨its, rv, p, _⟩ := I.list hs
  have hl := rv.length
  rw [List.length_map] at hl
  refine call_setG (knd := PySem.intKind X.prog X.w) (kf := kfI) (kfI_is X.prog X.w) (I.ok.hd hc) p.isList (xs := xs) (by rw [hl]; simp) hb (fun i v e => ?_) fun h' tk g kp => ?_
  · have e' : its[i]? = some v := by simpa using e
    obtain ⟨x, ex, rx⟩ := Kd.vals_back rv e'
    rw [List.getElem?_map] at ex
    cases hx : xs[i]? with
    | none => rw [hx] at ex; cases ex
    | some y =>
      rw [hx] at ex
      cases ex
      obtain ⟨t, rfl⟩ := rx
      exact ⟨y, rfl, intKind_is _ _ _ _, rfl⟩
  · exact ⟨.ref s.heap.objs.size, _, I.laid (t' := tk) kp (Nat.le_refl _) (setH_new g), rfl, q _ (I.hok.fresh (Nat.le_refl _))⟩
/-- len(a set of whole numbers) -/
def rLenI (X : Cx) : List V → Hp → VK → Prop := fun vs H Q => ∃ (a : Addr) (ks : List Int), vs = [.ref a] ∧ H a = some (SetH (PySem.intKind X.prog X.w) kfI a ks) ∧ Q (.int ks.length) H
theorem cr_lenI : CallR X (.builtin "len") (rLenI X) := by
  intro pins s σ H vs us Q I r h
  obtain ⟨a, ks, rfl, ha, q⟩ := h
  rw [Vals.ref1 r]
  obtain ⟨o, es, ep, t, ho, hx, hd, el, pm, nd, sb, ft, rs, ld⟩ := setH_get I ha
  have hz : es.size = ks.length := by
    have := pm.length_eq
    rw [List.length_map, Array.length_toList] at this
    exact this
  refine Calls.call_function_entry kind_len plain_len entry_len (args_len1 _) (wpAny_len_body_set ho hx hd ft ?_ ?_)
  · have := fits_of_scanBound sb
    rw [sizeLine_eq] at this
    omega
  · rw [hz]
    exact ⟨.int ks.length, H, (I.tok _).tok _, ⟨_, rfl⟩, q⟩
/-- len(set(xs)), whole numbers -/
def semLset : Dat → Option Out
  | .lst ds => match intsOf ds with
    | some xs => if xs.length + 1 < scanBound then some (.val (.int (dd xs).length)) else none
    | none => none
  | _ => none
theorem lset_rule {x : V} {H : Hp} {Q : VK} (h : rD1 (X.kw G) semLset x H Q) : rSetI X [x] H fun v H1 => rLenI X [v] H1 Q := by
  obtain ⟨F, d, o, sm, hd, ho, q⟩ := h
  unfold semLset at ho
  split at ho
  · split at ho
    · rename_i ds _ ys hs
      split at ho
      · rename_i hl
        cases ho
        have e := intsOf_eq hs
        subst e
        obtain ⟨a, vs, rfl, hx, lx, r'⟩ := hd
        have e1 := DenL.ints r'
        subst e1
        refine ⟨a, ys, rfl, hx, hl, fun p hp => ⟨p, _, rfl, upd_same, q _ _ ⟨F, New.of (Same.refl F) (fun b o e => same_upd hp b o (sm b o e)) (same_upd hp) (fun _ _ e => .inl e), rfl⟩⟩⟩
      · cases ho
    · cases ho
  · cases ho
end
/-! ### dict(pairs) -/
def dictP : List Dat → List Dat → List Dat → Option Dat
  | [], ks, vs => some (.dct ks vs)
  | .tup [k, v] :: r, ks, vs => if flatK k = true then (match putD k v ks vs with | .dct ks' vs' => dictP r ks' vs' | _ => none) else none
  | _, _, _ => none
def semDctP : Dat → Option Out
  | .lst ds => if ds.length < sizeLine then (dictP ds [] []).map .fresh else none
  | _ => none
section
variable {K : Kw} {F H : Hp}
theorem dictP_cons {e : Dat} {r ks vs : List Dat} {d : Dat} (h : dictP (e :: r) ks vs = some d) : ∃ k v ks' vs', e = .tup [k, v] ∧ flatK k = true ∧ putD k v ks vs = .dct ks' vs' ∧ dictP r ks' vs' = some d := by
  cases e with
  | tup es =>
    match es with
    | [k, v] =>
      have h : (if flatK k = true then (match putD k v ks vs with | .dct ks' vs' => dictP r ks' vs' | _ => none) else none) = some d := h
      split at h
      · rename_i hk
        cases hp : putD k v ks vs with
        | dct a b => rw [hp] at h; exact ⟨k, v, a, b, rfl, hk, hp, h⟩
        | _ => rw [hp] at h; cases h
      · cases h
    | [] => cases h
    | [_] => cases h
    | _ :: _ :: _ :: _ => cases h
  | _ => cases h
theorem dictP_den : ∀ {ds : List Dat} {xs : List V} {ks vs : List Dat} {ps : List (Key × V)} {d : Dat}, dictP ds ks vs = some d → DenL K F ds xs → ps.length + ds.length ≤ sizeLine → DenL K F ks (ps.map fun p => kV p.1) → DenL K F vs (ps.map (·.2)) →
    ∃ (as : List Addr) (kvs : List (Key × V)), xs = as.map V.ref ∧ Paired (fun p kv => SqT K F p [kV kv.1, kv.2]) as kvs ∧ ∀ (H : Hp) (p : Addr), Own K F (upd H p (.dK (mergeK ps kvs))) p d
  | [], xs, ks, vs, ps, d, h, hd, hl, q1, q2 => by
    have h : some (Dat.dct ks vs) = some d := h
    cases h
    cases hd
    exact ⟨[], [], rfl, .nil, fun H p => ⟨.dK ps, _, _, upd_same, ⟨by rw [List.length_map]; simpa using hl, .inl ⟨ps, rfl, rfl, rfl⟩⟩, q1, q2⟩⟩
  | e :: ds, xs, ks, vs, ps, d, h, ⟨x, xs', ex, de, dr⟩, hl, q1, q2 => by
    subst ex
    obtain ⟨k, v, ks2, vs2, rfl, hk, e4, h⟩ := dictP_cons h
    obtain ⟨a, ys, rfl, ha, la, dl⟩ := de
    obtain ⟨vk, ys', rfl, dk, dl⟩ := dl
    obtain ⟨vv, ys'', rfl, dv, dl⟩ := dl
    cases dl
    have ek := Den.key hk dk
    subst ek
    rw [List.length_cons] at hl
    have ow := putD_flat (H := F) (a := 0) hk dk dv (by omega) q1 q2
    rw [e4] at ow
    obtain ⟨u, ws, zs, hu, dok, r1, r2⟩ := ow
    rw [upd_same] at hu
    cases hu
    obtain ⟨ps2, e5, e6, e7⟩ : ∃ ps2, HO.dK (putK ps (toK k) vv) = .dK ps2 ∧ ws = ps2.map (fun p => kV p.1) ∧ zs = ps2.map (·.2) := by
      rcases dok.2 with ⟨ps2, z⟩ | ⟨ps2, z, _⟩
      · exact ⟨ps2, z⟩
      · cases z
    cases e5
    subst e6 e7
    have hlen := length_putK ps (toK k) vv
    obtain ⟨as, kvs, g1, g2, g3⟩ := dictP_den (ps := putK ps (toK k) vv) h dr (by omega) r1 r2
    exact ⟨a :: as, (toK k, vv) :: kvs, by rw [g1]; rfl, .cons ha g2, g3⟩
end
section
variable {X : Cx} {G : CK}
theorem paired_mono {K : Kw} {F H : Hp} (s : Same F H) : ∀ {as : List Addr} {kvs : List (Key × V)}, Paired (fun p kv => SqT K F p [kV kv.1, kv.2]) as kvs → Paired (fun p kv => SqT K H p [kV kv.1, kv.2]) as kvs
  | _, _, .nil => .nil
  | _, _, .cons h t => .cons (Same.seqT s h) (paired_mono s t)
theorem ok_dctP (hc : X.calm = true) : CallR X (.type "dict") (rC1 (X.kw G) semDctP) := by
  intro pins s σ H xs us Q I r h
  obtain ⟨x, rfl, F, d, o, sm, hd, ho, q⟩ := h
  unfold semDctP at ho
  split at ho
  · rename_i ds
    split at ho
    · rename_i hl
      obtain ⟨a, ys, rfl, hx, lx, dl⟩ := hd
      cases hz : dictP ds [] [] with
      | none => rw [hz] at ho; cases ho
      | some z =>
        rw [hz] at ho
        cases ho
        obtain ⟨as, kvs, e1, e2, e3⟩ := dictP_den (ps := []) hz dl (by simpa using Nat.le_of_lt hl) rfl rfl
        subst e1
        exact call_dictP hc pins s σ H _ us Q I r ⟨a, as, kvs, rfl, hx, paired_mono (K := X.kw G) sm e2, fun p hp => q _ _ ⟨F, p, New.of (Same.refl F) (fun b o e => same_upd hp b o (sm b o e)) (same_upd hp) (fun _ _ e => .inl e), rfl, hp, sm.free hp, e3 H p⟩⟩
    · cases ho
  · cases ho
end
end Dl

/-! Z6: list(zip(a, b)). -/
namespace Dl
open PySem PySem.W PySem.Spec PySem.Calls PyProof.Rows PyProof.V
section
variable {prog : Program} {w : World} {A : Around} {E : Value → Shared → Prop} {s : Shared} {z TI TO i1 i2 : Addr} {fp1 fp2 : List Addr} {n1 n2 i : Nat} {P1 P2 : Nat → Value → Prop} {St1 St2 : Nat → Heap → Prop}
theorem zipH_next {T : Addr} {f : Bool} {oT : Obj} {Q : Value → Shared → Prop} (S : ZipSep2 z TI TO i1 i2 fp1 fp2) (D1 : Draws prog w A i1 fp1 n1 P1 St1) (D2 : Draws prog w A i2 fp2 n2 P2 St2)
    (hz : IsZipHeld s.heap z TI TO T f) (hT : s.heap.get? T = some oT) (hTI : IsTupOf2 s.heap TI (.ref i1) (.ref i2)) (st1 : St1 i s.heap) (st2 : St2 i s.heap) (hlt1 : i < n1) (hlt2 : i < n2)
    (hQ : ∀ x1 x2 h' tk, P1 i x1 → P2 i x2 → IsZipHeld h' z TI TO T true → St1 (i + 1) h' → St2 (i + 1) h' → IsTupOf2 h' s.heap.objs.size x1 x2 → h'.objs.size = s.heap.objs.size + 1 →
      (∀ c o, c ≠ z → c ≠ i1 → c ≠ i2 → s.heap.get? c = some o → h'.get? c = some o) → Q (.ref s.heap.objs.size) { s with heap := h', toks := tk }) :
    wpAny (model prog w) A (Builtin.«zip.__next__» ⟨[.ref z], []⟩) (fun fin s' => ∃ v, fin = .done (.ret v) ∧ Q v s') E s := by
  obtain ⟨hp, g, d, tk0, os⟩ := s
  show wpAny _ _ (field (.ref z) 2 >>= _) _ _ _
  refine wpAny_bind (wpAny_field hz rfl (x := .bool false) rfl ?_)
  show wpAny _ _ (field (.ref z) 3 >>= _) _ _ _
  refine wpAny_bind (wpAny_field hz rfl (x := .ref TI) rfl ?_)
  refine wpAny_bind (wpAny_seqItems hTI rfl ?_)
  show wpAny _ _ (Builtin.SmallTypes.ownedTupleIsFree (.ref z) >>= _) _ _ _
  refine wpAny_bind (wpAny_tupleHeld_zip hz hT fun g0 hz0 hs0 => ?_)
  replace hs0 : Heap.SameBut z hp g0 := hs0
  simp only [Bool.false_eq_true, if_false]
  refine wpAny_bind ?_
  rw [← Array.forIn_toList]
  simp only [List.forIn_cons, List.forIn_nil]
  refine wpAny_bind (wpAny_bind (wpAny_holding ?_))
  show wpAny _ _ (Builtin.SmallTypes.nextOf (.ref i1) >>= _) _ _ ⟨g0, g, d, tk0, os⟩
  refine wpAny_bind (D1.item i _ _ _ hlt1 (D1.over st1 hs0 S.zf1) fun x1 p1 tk1 hx1 sn1 hp1 => wpAny_pure ?_)
  replace hp1 : Heap.SameBut i1 g0 p1 := hp1
  refine wpAny_pure ?_
  refine wpAny_bind (wpAny_bind (wpAny_holding ?_))
  show wpAny _ _ (Builtin.SmallTypes.nextOf (.ref i2) >>= _) _ _ ⟨p1, g, d, tk1, os⟩
  refine wpAny_bind (D2.item i _ _ _ hlt2 (D2.over (D2.over st2 hs0 S.zf2) hp1 S.sep1_2) fun x2 p2 tk2 hx2 sn2 hp2 => wpAny_pure ?_)
  replace hp2 : Heap.SameBut i2 p1 p2 := hp2
  refine wpAny_pure (wpAny_pure ?_)
  show wpAny _ _ (newTuple [x1, x2] >>= _) _ _ ⟨p2, g, d, tk2, os⟩
  refine wpAny_bind (wpAny_newTuple ?_)
  have hsz : p2.objs.size = hp.objs.size := by rw [hp2.1, hp1.1, hs0.1]
  have hzz : IsZipHeld p2 z TI TO T true := hp2.extBut _ _ S.zi2 (hp1.extBut _ _ S.zi1 hz0)
  have hk : ∀ c o, c ≠ z → c ≠ i1 → c ≠ i2 → hp.get? c = some o → p2.get? c = some o := fun c o c1 c2 c3 e => hp2.extBut _ _ c3 (hp1.extBut _ _ c2 (hs0.extBut _ _ c1 e))
  have hj1 : St1 (i + 1) p2 := D1.over sn1 hp2 S.sep2_1
  refine wpAny_pure ⟨_, rfl, ?_⟩
  show Q (.ref p2.objs.size) _
  have hpp : IsTupOf2 (p2.push { cls := .type "tuple", data := .seq #[x1, x2] }) p2.objs.size x1 x2 := Heap.get?_push_size _ rfl
  have hz4 : (p2.push { cls := .type "tuple", data := .seq #[x1, x2] }).objs.size = p2.objs.size + 1 := Heap.size_push ..
  rw [hsz] at hpp hz4 ⊢
  exact hQ x1 x2 _ tk2 hx1 hx2 (Heap.get?_push_of_some _ hzz) (D1.frame _ _ _ hj1 fun b _ o e => Heap.get?_push_of_some _ e) (D2.frame _ _ _ sn2 fun b _ o e => Heap.get?_push_of_some _ e) hpp hz4 fun c o c1 c2 c3 e => Heap.get?_push_of_some _ (hk c o c1 c2 c3 e)
theorem zipH_end {T : Addr} {f : Bool} {oT : Obj} {Q : Fin → Shared → Prop} (S : ZipSep2 z TI TO i1 i2 fp1 fp2) (D1 : Draws prog w A i1 fp1 n1 P1 St1) (D2 : Draws prog w A i2 fp2 n2 P2 St2)
    (hz : IsZipHeld s.heap z TI TO T f) (hT : s.heap.get? T = some oT) (hTI : IsTupOf2 s.heap TI (.ref i1) (.ref i2)) (st1 : St1 i s.heap) (st2 : St2 i s.heap) (hle1 : i ≤ n1) (hle2 : i ≤ n2) (hend : i = n1 ∨ i = n2)
    (hE : ∀ h' tk e, (∀ c o, c ≠ z → c ≠ i1 → c ≠ i2 → s.heap.get? c = some o → h'.get? c = some o) → (∃ o, h'.get? e = some o ∧ o.cls = .type "StopIteration") → E (.ref e) { s with heap := h', toks := tk }) :
    wpAny (model prog w) A (Builtin.«zip.__next__» ⟨[.ref z], []⟩) Q E s := by
  obtain ⟨hp, g, d, tk0, os⟩ := s
  show wpAny _ _ (field (.ref z) 2 >>= _) _ _ _
  refine wpAny_bind (wpAny_field hz rfl (x := .bool false) rfl ?_)
  show wpAny _ _ (field (.ref z) 3 >>= _) _ _ _
  refine wpAny_bind (wpAny_field hz rfl (x := .ref TI) rfl ?_)
  refine wpAny_bind (wpAny_seqItems hTI rfl ?_)
  show wpAny _ _ (Builtin.SmallTypes.ownedTupleIsFree (.ref z) >>= _) _ _ _
  refine wpAny_bind (wpAny_tupleHeld_zip hz hT fun g0 hz0 hs0 => ?_)
  replace hs0 : Heap.SameBut z hp g0 := hs0
  simp only [Bool.false_eq_true, if_false]
  refine wpAny_bind ?_
  rw [← Array.forIn_toList]
  simp only [List.forIn_cons, List.forIn_nil]
  refine wpAny_bind (wpAny_bind (wpAny_holding ?_))
  show wpAny _ _ (Builtin.SmallTypes.nextOf (.ref i1) >>= _) _ _ ⟨g0, g, d, tk0, os⟩
  by_cases hlt1 : i < n1
  · refine wpAny_bind (D1.item i _ _ _ hlt1 (D1.over st1 hs0 S.zf1) fun x1 p1 tk1 hx1 sn1 hp1 => wpAny_pure ?_)
    replace hp1 : Heap.SameBut i1 g0 p1 := hp1
    have hi2 : i = n2 := by omega
    refine wpAny_pure ?_
    refine wpAny_bind (wpAny_bind (wpAny_holding ?_))
    show wpAny _ _ (Builtin.SmallTypes.nextOf (.ref i2) >>= _) _ _ ⟨p1, g, d, tk1, os⟩
    refine wpAny_bind (D2.done ⟨p1, g, d, tk1, os⟩ _ _ (by rw [← hi2]; exact D2.over (D2.over st2 hs0 S.zf2) hp1 S.sep1_2) fun q e hq he => ?_)
    replace hq : Heap.ExtBut i2 p1 q := hq
    exact hE q tk1 e (fun c o c1 c2 c3 x => hq _ _ c3 (hp1.extBut _ _ c2 (hs0.extBut _ _ c1 x))) he
  · have hi1 : i = n1 := by omega
    refine wpAny_bind (D1.done ⟨g0, g, d, tk0, os⟩ _ _ (by rw [← hi1]; exact D1.over st1 hs0 S.zf1) fun q e hq he => ?_)
    replace hq : Heap.ExtBut i1 g0 q := hq
    exact hE q tk0 e (fun c o c1 c2 c3 x => hq _ _ c2 (hs0.extBut _ _ c1 x)) he
/-- where the zip stands: nothing given yet, or the first tuple is held -/
def ZSt (z TI TO i1 i2 S : Addr) (i : Nat) (h : Heap) : Prop := (i = 0 ∧ IsZip h z TI TO .none ∧ ∃ a1 a2, IsTupOf2 h TO a1 a2) ∨ ∃ T f oT, IsZipHeld h z TI TO T f ∧ h.get? T = some oT ∧ T ≠ z ∧ T ≠ i1 ∧ T ≠ i2 ∧ T ≠ TO ∧ T ≠ S
theorem zl_item {Sl : Addr} {Q : Option Value → Shared → Prop} (S : ZipSep2 z TI TO i1 i2 fp1 fp2) (D1 : Draws prog w A.in1 i1 fp1 n1 P1 St1) (D2 : Draws prog w A.in1 i2 fp2 n2 P2 St2) (hst : ZSt z TI TO i1 i2 Sl i s.heap) (hSl : Sl < s.heap.objs.size) (hTOl : TO < s.heap.objs.size)
    (hTI : IsTupOf2 s.heap TI (.ref i1) (.ref i2)) (st1 : St1 i s.heap) (st2 : St2 i s.heap) (hlt1 : i < n1) (hlt2 : i < n2)
    (hQ : ∀ x1 x2 h' tk, P1 i x1 → P2 i x2 → ZSt z TI TO i1 i2 Sl (i + 1) h' → IsTupOf2 h' TI (.ref i1) (.ref i2) → St1 (i + 1) h' → St2 (i + 1) h' → IsTupOf2 h' s.heap.objs.size x1 x2 → h'.objs.size = s.heap.objs.size + 1 →
      (∀ c o, c ≠ z → c ≠ TO → c ≠ i1 → c ≠ i2 → s.heap.get? c = some o → h'.get? c = some o) → Q (some (.ref s.heap.objs.size)) { s with heap := h', toks := tk }) : wpAny (model prog w) A (pyNext (.ref z)) Q E s := by
  have lt : ∀ {c o}, s.heap.get? c = some o → s.heap.objs.size ≠ c := fun e => Nat.ne_of_gt (Heap.lt_size e)
  obtain ⟨o1, l1⟩ := D1.live _ _ st1
  obtain ⟨o2, l2⟩ := D2.live _ _ st2
  rcases hst with ⟨rfl, hz, a1, a2, hTO⟩ | ⟨T, f, oT, hz, hT, t1, t2, t3, t4, t5⟩
  · exact wpAny_pyNext_zipD2_item S D1 D2 hz hTI hTO st1 st2 hlt1 hlt2 fun x1 x2 h' tk y1 y2 b1 b2 d1 d2 b5 b6 hk =>
      hQ x1 x2 h' tk y1 y2 (.inr ⟨_, false, _, b1, b5, lt hz, lt l1, lt l2, lt hTO, Nat.ne_of_gt hSl⟩) (hk _ _ S.TIz S.TITO S.TIi1 S.TIi2 hTI) d1 d2 b5 b6 hk
  · have hTy : s.TypeIs (.ref z) "zip" := ⟨_, hz, rfl⟩
    unfold pyNext
    exact wpAny_bind (wpAny_attempt (wpAny_callSpecial?_slot (name := Str.ofString "__next__") hTy F.slot_zip_next
      (wpAny_call_entry F.slot_zip_next hTy F.entry_zip_next (zipH_next S D1 D2 hz hT hTI st1 st2 hlt1 hlt2 fun x1 x2 h' tk y1 y2 b1 d1 d2 b5 b6 hk =>
        wpAny_pure (hQ x1 x2 h' tk y1 y2 (.inr ⟨T, true, oT, b1, hk _ _ t1 t2 t3 hT, t1, t2, t3, t4, t5⟩) (hk _ _ S.TIz S.TIi1 S.TIi2 hTI) d1 d2 b5 b6 fun c o cz _ c1 c2 e => hk c o cz c1 c2 e)) (F.args_zip_next_1 _))))
theorem zl_done {Sl : Addr} {Q : Option Value → Shared → Prop} (S : ZipSep2 z TI TO i1 i2 fp1 fp2) (D1 : Draws prog w A.in1 i1 fp1 n1 P1 St1) (D2 : Draws prog w A.in1 i2 fp2 n2 P2 St2) (hst : ZSt z TI TO i1 i2 Sl i s.heap)
    (hTI : IsTupOf2 s.heap TI (.ref i1) (.ref i2)) (st1 : St1 i s.heap) (st2 : St2 i s.heap) (hle1 : i ≤ n1) (hle2 : i ≤ n2) (hend : i = n1 ∨ i = n2)
    (hQ : ∀ h' tk, (∀ c o, c ≠ z → c ≠ TO → c ≠ i1 → c ≠ i2 → s.heap.get? c = some o → h'.get? c = some o) → Q none { s with heap := h', toks := tk }) : wpAny (model prog w) A (pyNext (.ref z)) Q E s := by
  rcases hst with ⟨rfl, hz, a1, a2, hTO⟩ | ⟨T, f, oT, hz, hT, t1, t2, t3, t4, t5⟩
  · exact wpAny_pyNext_zipD2_end S D1 D2 hz hTI hTO st1 st2 hle1 hle2 hend hQ
  · have hTy : s.TypeIs (.ref z) "zip" := ⟨_, hz, rfl⟩
    unfold pyNext
    refine wpAny_bind (wpAny_attempt (wpAny_callSpecial?_slot (name := Str.ofString "__next__") hTy F.slot_zip_next
      (wpAny_call_entry F.slot_zip_next hTy F.entry_zip_next (zipH_end S D1 D2 hz hT hTI st1 st2 hle1 hle2 hend fun h' tk e hk he => ?_) (F.args_zip_next_1 _))))
    obtain ⟨o, ho, hc⟩ := he
    refine wpAny_bind (wpAny_isInstance (T := "StopIteration") (b := true) ⟨o, ho, hc⟩ isSubtype_stop ?_)
    exact wpAny_pure (hQ _ _ fun c o cz _ c1 c2 e => hk c o cz c1 c2 e)
end
/-- the addresses as hold the pairs, in order; they lie above lo and rise -/
structure ZG (P1 P2 : Nat → Value → Prop) (lo : Addr) (h : Heap) (as : List Addr) : Prop where
  rise : as.Pairwise (· < ·)
  above : ∀ a ∈ as, lo < a
  pairs : ∀ (j : Nat) (a : Addr), as[j]? = some a → ∃ x y, P1 j x ∧ P2 j y ∧ IsTupOf2 h a x y
theorem ZG.there {P1 P2 : Nat → Value → Prop} {lo : Addr} {h : Heap} {as : List Addr} (g : ZG P1 P2 lo h as) {a : Addr} (ha : a ∈ as) : a < h.objs.size := by
  obtain ⟨j, hj⟩ := List.mem_iff_getElem?.mp ha
  obtain ⟨_, _, _, _, e⟩ := g.pairs j a hj
  exact Heap.lt_size e
section
variable {prog : Program} {w : World} {A : Around} {E : Value → Shared → Prop} {s : Shared} {R : Result → Shared → Prop} {z TI TO i1 i2 : Addr} {fp1 fp2 : List Addr} {n1 n2 : Nat} {P1 P2 : Nat → Value → Prop} {St1 St2 : Nat → Heap → Prop}
theorem zl_loop {Sl : Addr} (S : ZipSep2 z TI TO i1 i2 fp1 fp2) (D1 : Draws prog w A.in1.in1 i1 fp1 n1 P1 St1) (D2 : Draws prog w A.in1.in1 i2 fp2 n2 P2 St2) (sz : z < Sl) (sTI : TI < Sl) (sTO : TO < Sl) (s1 : i1 < Sl) (s2 : i2 < Sl) (sf1 : Sl ∉ fp1) (sf2 : Sl ∉ fp2) (hn : min n1 n2 ≤ sizeLine) (res : Value) {h₁ : Heap}
    (hR : ∀ h' tk acc c as, (∀ b o, b ≠ Sl → b ≠ z → b ≠ TO → b ≠ i1 → b ≠ i2 → h₁.get? b = some o → h'.get? b = some o) → h'.get? Sl = some { cls := .type "list", dict := none, data := .seq acc c, slots := #[] } → as.length = min n1 n2 → ZG P1 P2 Sl h' as →
      acc.toList = as.map Value.ref → R (.ok (.ret res)) { s with heap := h', toks := tk }) :
    ∀ (k i : Nat) (h : Heap) (tk c : Nat) (acc : Array Value) (as : List Addr), min n1 n2 - i = k → i ≤ min n1 n2 → ZSt z TI TO i1 i2 Sl i h → IsTupOf2 h TI (.ref i1) (.ref i2) → St1 i h → St2 i h → (∀ b o, b ≠ Sl → b ≠ z → b ≠ TO → b ≠ i1 → b ≠ i2 → h₁.get? b = some o → h.get? b = some o) →
      h.get? Sl = some { cls := .type "list", dict := none, data := .seq acc c, slots := #[] } → acc.toList = as.map Value.ref → as.length = i → ZG P1 P2 Sl h as →
      codeAny (model prog w) A (.builtin "list.extend.loop" ⟨[.ref Sl, .ref z, res], []⟩) R { s with heap := h, toks := tk } := by
  have nz : Sl ≠ z := Nat.ne_of_gt sz
  have nTO : Sl ≠ TO := Nat.ne_of_gt sTO
  have ni1 : Sl ≠ i1 := Nat.ne_of_gt s1
  have ni2 : Sl ≠ i2 := Nat.ne_of_gt s2
  intro k
  induction k with
  | zero =>
    intro i h tk c acc as hk hi hst hTI st1 st2 hkeep hS hacc hal hG
    have hin : i = min n1 n2 := by omega
    refine codeAny_builtin PySem.F.entry_extend_loop ?_
    rw [Around.under_plainId PySem.F.plain_extend_loop _]
    show wpAny _ A.in1 (pyNext (.ref z) >>= _) _ _ _
    refine wpAny_bind (zl_done (s := { s with heap := h, toks := tk }) (A := A.in1) S D1 D2 hst hTI st1 st2 (by omega) (by omega) (by omega) fun h' tk' he => ?_)
    refine wpAny_pure (hR h' tk' acc c as (fun b o h1 h2 h3 h4 h5 e => he b o h2 h3 h4 h5 (hkeep b o h1 h2 h3 h4 h5 e)) (he Sl _ nz nTO ni1 ni2 hS) (by omega) ⟨hG.rise, hG.above, fun j a hj => ?_⟩ hacc)
    obtain ⟨x, y, p1, p2, e3⟩ := hG.pairs j a hj
    have ha := hG.above a (List.mem_of_getElem? hj)
    exact ⟨x, y, p1, p2, he a _ (Nat.ne_of_gt (Nat.lt_trans sz ha)) (Nat.ne_of_gt (Nat.lt_trans sTO ha)) (Nat.ne_of_gt (Nat.lt_trans s1 ha)) (Nat.ne_of_gt (Nat.lt_trans s2 ha)) e3⟩
  | succ k ih =>
    intro i h tk c acc as hk hi hst hTI st1 st2 hkeep hS hacc hal hG
    have hlt : i < min n1 n2 := by omega
    have hsz : acc.size = i := by rw [← Array.length_toList, hacc, List.length_map, hal]
    have hSl : Sl < h.objs.size := Heap.lt_size hS
    refine codeAny_builtin PySem.F.entry_extend_loop ?_
    rw [Around.under_plainId PySem.F.plain_extend_loop _]
    show wpAny _ A.in1 (pyNext (.ref z) >>= _) _ _ _
    refine wpAny_bind (zl_item (s := { s with heap := h, toks := tk }) (A := A.in1) (Sl := Sl) S D1 D2 hst hSl (Nat.lt_trans sTO hSl) hTI st1 st2 (by omega) (by omega) fun x1 x2 h' tk' y1 y2 hst' hTI' d1 d2 ht hz hkp => ?_)
    dsimp only at ht hz hkp ⊢
    have hS' := hkp Sl _ nz nTO ni1 ni2 hS
    have up : ∀ b o, b ≠ Sl → h'.get? b = some o → (h'.update Sl (Obj.mapSeq (·.push (Value.ref h.objs.size)))).get? b = some o := fun b o hb e => (Heap.get?_update_other _ _ (Ne.symm hb)).trans e
    show wpAny _ A.in1 (updateSeq Sl (·.push (Value.ref h.objs.size)) >>= _) _ _ _
    refine wpAny_bind ?_
    have zst : ZSt z TI TO i1 i2 Sl (i + 1) (h'.update Sl (Obj.mapSeq (·.push (Value.ref h.objs.size)))) := by
      rcases hst' with ⟨z0, _⟩ | ⟨T, f, oT, hz', hT, t1, t2, t3, t4, t5⟩
      · omega
      · exact .inr ⟨T, f, oT, up z _ (Ne.symm nz) hz', up T _ t5 hT, t1, t2, t3, t4, t5⟩
    refine wpAny_updateSeq hS' rfl (wpAny_pure ⟨plainId_quiet PySem.F.plain_extend_loop _, ih (i + 1) _ tk' _ (acc.push (Value.ref h.objs.size)) (as ++ [h.objs.size]) (by omega) hlt zst (up TI _ (Nat.ne_of_lt sTI) hTI') (D1.frame _ _ _ d1 fun b hb o e => up b o (fun q => sf1 (q ▸ hb)) e) (D2.frame _ _ _ d2 fun b hb o e => up b o (fun q => sf2 (q ▸ hb)) e)
      (fun b o h1 h2 h3 h4 h5 e => up b o h1 (hkp b o h2 h3 h4 h5 (hkeep b o h1 h2 h3 h4 h5 e))) (Heap.get?_update_self _ hS' rfl) (by rw [Array.toList_push, hacc, List.map_append]; rfl) (by rw [List.length_append, hal]; rfl) ⟨?_, ?_, ?_⟩⟩) (by rw [hsz]; omega) (by show (acc.push (Value.ref h.objs.size)).size ≤ sizeLine + 1; rw [Array.size_push]; omega)
    · refine List.pairwise_append.mpr ⟨hG.rise, List.pairwise_singleton _ _, fun a ha b hb => ?_⟩
      rw [List.mem_singleton.mp hb]
      exact hG.there ha
    · intro a ha
      rcases List.mem_append.mp ha with ha | ha
      · exact hG.above a ha
      · rw [List.mem_singleton.mp ha]; exact hSl
    · intro j b hj
      rcases Nat.lt_trichotomy j as.length with h1 | h1 | h1
      · rw [List.getElem?_append_left h1] at hj
        obtain ⟨x, y, p1, p2, e3⟩ := hG.pairs j b hj
        have hb := hG.above b (List.mem_of_getElem? hj)
        exact ⟨x, y, p1, p2, up b _ (Nat.ne_of_gt hb) (hkp b _ (Nat.ne_of_gt (Nat.lt_trans sz hb)) (Nat.ne_of_gt (Nat.lt_trans sTO hb)) (Nat.ne_of_gt (Nat.lt_trans s1 hb)) (Nat.ne_of_gt (Nat.lt_trans s2 hb)) e3)⟩
      · subst h1
        have hb : h.objs.size = b := by simpa using hj
        subst hb
        subst hal
        exact ⟨x1, x2, y1, y2, up _ _ (Nat.ne_of_gt hSl) ht⟩
      · have hnone : (as ++ [h.objs.size])[j]? = none := List.getElem?_eq_none (by rw [List.length_append, List.length_singleton]; omega)
        rw [hnone] at hj; cases hj
theorem zip_no_len : typeLookup (.type "zip") "__len__" = pure none := am_miss_of_fast (by decide +kernel)
theorem zip_no_hint : typeLookup (.type "zip") "__length_hint__" = pure none := am_miss_of_fast (by decide +kernel)
/-- list(z), z a zip at its beginning -/
theorem zl_call {Q : Value → Shared → Prop} (S : ZipSep2 z TI TO i1 i2 fp1 fp2) (D1 : Draws prog w A.in1.in1.in1 i1 fp1 n1 P1 St1) (D2 : Draws prog w A.in1.in1.in1 i2 fp2 n2 P2 St2) (hz : IsZip s.heap z TI TO .none) (hTI : IsTupOf2 s.heap TI (.ref i1) (.ref i2)) {a1 a2 : Value} (hTO : IsTupOf2 s.heap TO a1 a2) (st1 : St1 0 s.heap) (st2 : St2 0 s.heap)
    (l1 : ∀ b ∈ fp1, b < s.heap.objs.size) (l2 : ∀ b ∈ fp2, b < s.heap.objs.size) (hn : min n1 n2 ≤ sizeLine)
    (hQ : ∀ h' tk acc c as, (∀ b o, b ≠ z → b ≠ TO → b ≠ i1 → b ≠ i2 → s.heap.get? b = some o → h'.get? b = some o) → h'.get? s.heap.objs.size = some { cls := .type "list", dict := none, data := .seq acc c, slots := #[] } → as.length = min n1 n2 → ZG P1 P2 s.heap.objs.size h' as →
      acc.toList = as.map Value.ref → Q (.ref s.heap.objs.size) { s with heap := h', toks := tk }) :
    wpAny (model prog w) A (call (.type "list") [.ref z]) Q E s := by
  have zl : z < s.heap.objs.size := Heap.lt_size hz
  have TIl : TI < s.heap.objs.size := Heap.lt_size hTI
  have TOl : TO < s.heap.objs.size := Heap.lt_size hTO
  have i1l : i1 < s.heap.objs.size := l1 _ S.mem1
  have i2l : i2 < s.heap.objs.size := l2 _ S.mem2
  refine callType_codes (Q₁ := fun obj s₁ => obj = .ref s.heap.objs.size ∧ s₁ = { s with heap := s.heap.push { cls := .type "list", data := .seq #[] } }) PySem.F.called_list (PySem.F.typeCall_list_1 _) PySem.F.entry_list_init
    (code_list_new _ ⟨rfl, rfl⟩) fun obj s₁ h₁ => ?_
  obtain ⟨rfl, rfl⟩ := h₁
  have hS : (s.heap.push { cls := .type "list", data := .seq #[] }).get? s.heap.objs.size = some { cls := .type "list", data := .seq #[] } := Heap.get?_push_size _ rfl
  refine ⟨⟨_, hS, rfl⟩, PySem.F.args_list_init_2 _ _, ?_⟩
  generalize hL : s.heap.objs.size = L at *
  show wpAny _ _ (do let old ← Builtin.List.listItems (.ref L); Builtin.List.listUpdate (.ref L) (fun _ => #[]); letGo old.toList.reverse; Builtin.List.listExtendWith (.ref L) (.ref z) .none) _ _ _
  refine wpAny_bind ?_
  unfold Builtin.List.listItems
  refine wpAny_bind (wpAny_seqItems hS rfl (wpAny_pure ?_))
  show wpAny _ _ (updateSeq L (fun _ => #[]) >>= fun _ => letGo (#[] : Array Value).toList.reverse >>= fun _ => Builtin.List.listExtendWith (.ref L) (.ref z) .none) _ _ _
  refine wpAny_bind (wpAny_updateSeq hS rfl ?_)
  have hS₂ := Heap.get?_update_self (Obj.mapSeq (fun _ => (#[] : Array Value))) hS rfl
  refine wpAny_bind (wpAny_letGo ?_)
  have oth : ∀ b o, b ≠ L → s.heap.get? b = some o → ((s.heap.push { cls := .type "list", data := .seq #[] }).update L (Obj.mapSeq (fun _ => (#[] : Array Value)))).get? b = some o :=
    fun b o hb e => (Heap.get?_update_other _ _ (Ne.symm hb)).trans (Heap.get?_push_of_some _ e)
  have zz : IsZip ((s.heap.push { cls := .type "list", data := .seq #[] }).update L (Obj.mapSeq (fun _ => (#[] : Array Value)))) z TI TO .none := oth z _ (Nat.ne_of_lt zl) hz
  unfold Builtin.List.listExtendWith
  refine wpAny_bind (wpAny_typeOf (T := "zip") ⟨_, zz, rfl⟩ ?_)
  have h1 : Builtin.List.listSameRef (.ref L) (.ref z) = false := by simp [Builtin.List.listSameRef, Nat.ne_of_gt zl]
  have h2 : (Value.type "zip" == Value.type "list") = false := by decide
  have h3 : (Value.type "zip" == Value.type "tuple") = false := by decide
  simp only [h1, h2, h3, Bool.or_false, Bool.false_eq_true, if_false]
  refine wpAny_bind (wpAny_pyIter_zip zz ?_)
  refine wpAny_bind (wpAny_holding ?_)
  unfold Builtin.List.listLengthHint
  refine wpAny_bind (wpAny_specialOf (T := "zip") ⟨_, zz, rfl⟩ zip_no_len ?_)
  show wpAny _ _ (specialOf (Value.ref z) (Str.ofString "__length_hint__") >>= _) _ _ _
  refine wpAny_bind (wpAny_specialOf (T := "zip") ⟨_, zz, rfl⟩ zip_no_hint ?_)
  refine wpAny_pure ?_
  show wpAny _ _ (rule "list.extend.makes-room" >>= fun _ => Builtin.List.listTouch (.ref L) >>= fun _ =>
    again (.builtin "list.extend.loop" ⟨[.ref L, .ref z, .none], []⟩)) _ _ _
  refine wpAny_bind (wpAny_rule ?_)
  refine wpAny_bind ?_
  show wpAny _ _ (updateSeq L (·.push .none) >>= fun _ => updateSeq L (·.pop)) _ _ _
  refine wpAny_bind (wpAny_updateSeq hS₂ rfl ?_)
  have hS₃ := Heap.get?_update_self (Obj.mapSeq (·.push Value.none)) hS₂ rfl
  refine wpAny_updateSeq hS₃ rfl ?_
  have hS₄ := Heap.get?_update_self (Obj.mapSeq (·.pop)) hS₃ rfl
  have oth4 : ∀ b o, b ≠ L → s.heap.get? b = some o → ((((s.heap.push { cls := .type "list", data := .seq #[] }).update L (Obj.mapSeq (fun _ => (#[] : Array Value)))).update L (Obj.mapSeq (·.push Value.none))).update L (Obj.mapSeq (·.pop))).get? b = some o :=
    fun b o hb e => (Heap.get?_update_other _ _ (Ne.symm hb)).trans ((Heap.get?_update_other _ _ (Ne.symm hb)).trans (oth b o hb e))
  have lf1 : L ∉ fp1 := fun hm => Nat.lt_irrefl _ (l1 _ hm)
  have lf2 : L ∉ fp2 := fun hm => Nat.lt_irrefl _ (l2 _ hm)
  refine wpAny_pure ⟨plainId_quiet PySem.F.plain_extend_loop _, zl_loop (A := A.in1) (Sl := L) S D1 D2 zl TIl TOl i1l i2l lf1 lf2 hn .none (h₁ := s.heap) (fun h' tk acc c as hk hS' hl hG hacc => ?_)
    (min n1 n2) 0 _ _ _ #[] [] (Nat.sub_zero _) (Nat.zero_le _) (.inl ⟨rfl, oth4 z _ (Nat.ne_of_lt zl) hz, a1, a2, oth4 TO _ (Nat.ne_of_lt TOl) hTO⟩) (oth4 TI _ (Nat.ne_of_lt TIl) hTI)
    (D1.frame _ _ _ st1 fun b hb o e => oth4 b o (fun q => lf1 (q ▸ hb)) e) (D2.frame _ _ _ st2 fun b hb o e => oth4 b o (fun q => lf2 (q ▸ hb)) e) (fun b o hb _ _ _ _ e => oth4 b o hb e) hS₄ rfl rfl
    ⟨List.Pairwise.nil, (fun _ ha => nomatch ha), (fun j a hj => by simp at hj)⟩⟩
  exact ⟨rfl, hQ h' tk acc c as (fun b o h2 h3 h4 h5 e => hk b o (Nat.ne_of_lt (hL ▸ Heap.lt_size e)) h2 h3 h4 h5 e) hS' hl hG hacc⟩
end

/-! ### many new tuples at once -/
open L2
/-- new pairs, laid at once -/
def layT (H : Hp) : List Addr → List (V × V) → Hp
  | a :: as, (x, y) :: ps => upd (layT H as ps) a (.tup [x, y])
  | _, _ => H
theorem layT_old {H : Hp} : ∀ (as : List Addr) (ps : List (V × V)) {b : Addr}, b ∉ as → layT H as ps b = H b
  | [], _, _, _ => by cases ‹List (V × V)› <;> rfl
  | _ :: _, [], _, _ => rfl
  | a :: as, (x, y) :: ps, b, h => by
    show upd (layT H as ps) a (.tup [x, y]) b = H b
    have hne : b ≠ a := fun z => h (by rw [z]; exact List.mem_cons_self ..)
    rw [upd_ne hne]
    exact layT_old as ps fun z => h (List.mem_cons_of_mem _ z)
theorem layT_at {H : Hp} : ∀ (as : List Addr) (ps : List (V × V)) (j : Nat) (a : Addr) (x y : V), as.Nodup → as[j]? = some a → ps[j]? = some (x, y) → layT H as ps a = some (.tup [x, y])
  | [], _, j, _, _, _, _, h, _ => by simp at h
  | _ :: _, [], j, _, _, _, _, _, h => by simp at h
  | b :: as, (x', y') :: ps, 0, a, x, y, nd, h1, h2 => by
    cases h1
    cases h2
    exact upd_same
  | b :: as, (x', y') :: ps, j + 1, a, x, y, nd, h1, h2 => by
    have h1 : as[j]? = some a := h1
    have h2 : ps[j]? = some (x, y) := h2
    obtain ⟨n1, n2⟩ := List.nodup_cons.mp nd
    show upd (layT H as ps) b (.tup [x', y']) a = _
    have hne : a ≠ b := fun z => n1 (by rw [← z]; exact List.mem_of_getElem? h1)
    rw [upd_ne hne]
    exact layT_at as ps j a x y n2 h1 h2
theorem layT_get {H : Hp} : ∀ (as : List Addr) (ps : List (V × V)) (b : Addr) (u : HO), as.length = ps.length → layT H as ps b = some u → (b ∉ as ∧ H b = some u) ∨ ∃ (j : Nat) (x y : V), as[j]? = some b ∧ ps[j]? = some (x, y) ∧ u = .tup [x, y]
  | [], [], b, u, _, h => .inl ⟨(fun z => nomatch z), h⟩
  | a :: as, (x, y) :: ps, b, u, hl, h => by
    have h : upd (layT H as ps) a (.tup [x, y]) b = some u := h
    by_cases hb : b = a
    · subst hb
      rw [upd_same] at h
      cases h
      exact .inr ⟨0, x, y, rfl, rfl, rfl⟩
    · rw [upd_ne hb] at h
      rcases layT_get as ps b u (Nat.succ.inj hl) h with ⟨h1, h2⟩ | ⟨j, x', y', e1, e2, e3⟩
      · exact .inl ⟨fun z => (List.mem_cons.mp z).elim hb h1, h2⟩
      · exact .inr ⟨j + 1, x', y', e1, e2, e3⟩
theorem layT_same {H : Hp} {as : List Addr} (hn : ∀ b ∈ as, H b = none) (ps : List (V × V)) : Same H (layT H as ps) := fun b o e => by
  rw [layT_old as ps fun z => by rw [hn b z] at e; cases e]
  exact e
theorem vals_refs : ∀ as : List Addr, Vals (as.map V.ref) (as.map Value.ref)
  | [] => Paired.nil
  | a :: as => Paired.cons rfl (vals_refs as)
def tLz (X : Cx) (ta : TA) : TE := fun σ H Q => ta σ H fun vs H1 => ∃ (v w : Kd) (xs ys : List V), vs = [v.v, w.v] ∧ v.has X.K H1 xs ∧ w.has X.K H1 ys ∧ min xs.length ys.length ≤ sizeLine ∧
  ∀ (a : Addr) (as : List Addr), H1 a = none → (∀ b ∈ as, H1 b = none) → a ∉ as → as.Nodup → as.length = (xs.zip ys).length → Q (.ref a) (upd (layT H1 as (xs.zip ys)) a (.lst (as.map V.ref)))
theorem pe_lzip {X : Cx} {e e2 : Expr} {ta : TA} {p p2 pos pos2 : Pos} (hc : X.calm = true) (hgl : Gl X "list") (hml : X.mg "list" = none) (hg : Gl X "zip") (hm : X.mg "zip" = none) (ha : PA X [e, e2] ta)
    (hs : starEach [e, e2] X.env = (false, eval e X.env) :: starEach [e2] X.env) (hpl : (backTo pos2 (starEach [e2] X.env)).any (·.1) = false) :
    PE X (.Call (.Name "list" p) [.Call (.Name "zip" p2) [e, e2] [] pos2] [] pos) (tLz X ta) := by
  refine ⟨fun pins s σ H Q I h => ?_⟩
  refine wpAny_Call_Name_kw (ld_blt I hgl hml (u := .type "list") (by decide +kernel) (PyProof.Rows.callWith_type1 (T := "list") ?_ rfl rfl))
  show wpAny _ _ (spliced ((false, eval (.Call (.Name "zip" p2) [e, e2] [] pos2) X.env) :: backTo pos (starEach [] X.env))) _ _ s
  refine Calls.spliced_cons (Call_ (ld_blt I hg hm PyProof.Rows.boot_zip (PyProof.Rows.callWith_type1 (thn (ha.run pos2 pins s σ H _ I h) fun us s1 ⟨vs, H1, I1, r1, q1⟩ => ?_) hs hpl)))
  obtain ⟨v, w, xs, ys, rfl, hv, hw, hn, q⟩ := q1
  cases r1 with
  | cons r rr =>
    cases rr with
    | cons r' rr =>
      cases rr
      obtain ⟨k1, rfl, e1⟩ := v.rel r
      obtain ⟨k2, rfl, e2⟩ := w.rel r'
      have hk1 : k1.has X.K H1 xs := by rw [e1]; exact hv
      have hk2 : k2.has X.K H1 ys := by rw [e2]; exact hw
      obtain ⟨G1, B1, g1, l1⟩ := k1.begins I1 hk1
      obtain ⟨G2, B2, g2, l2⟩ := k2.begins I1 hk2
      refine zip_begins2 B1 B2 g1 g2 fun h' z1 z2 z3 z4 z5 z6 hk => ?_
      refine Calls.spliced_nil ?_
      have I2 : Inv X pins σ H1 { s1 with heap := h' } := I1.kept (t' := s1.toks) hk
      have hh : X.A.in1.in1.in1.handled = none := I.ok.hd hc
      obtain ⟨P1, St1, D1, st1, _, y1⟩ := k1.draws I2 hk1 (it := s1.heap.objs.size) (fun z => absurd (l1 _ z) (Nat.lt_irrefl _)) hh
      obtain ⟨P2, St2, D2, st2, _, y2⟩ := k2.draws I2 hk2 (it := s1.heap.objs.size + 1) (fun z => absurd (l2 _ z) (Nat.not_lt.mpr (Nat.le_add_right _ 1))) hh
      have lo : ∀ (k : Kd) (j : Nat), j < 5 → (∀ b ∈ k.base, b < s1.heap.objs.size) → ∀ b ∈ k.fp (s1.heap.objs.size + j), b < h'.objs.size := fun k j hj l b hb => by
        rw [z6]
        rcases List.mem_cons.mp hb with rfl | hb
        · exact Nat.add_lt_add_left hj _
        · exact Nat.lt_of_lt_of_le (l b hb) (Nat.le_add_right _ _)
      refine zl_call (s := { s1 with heap := h' }) (zip_sep2 l1 l2) D1 D2 z1 z2 z3 (st1 0 (k1.at_new z4)) (st2 0 (k2.at_new z5)) (lo k1 0 (by decide) l1) (lo k2 1 (by decide) l2) hn fun h'' tk acc c as hk2 hl hlen hG hacc => ?_
      have hl : h''.get? h'.objs.size = some { cls := .type "list", dict := none, data := .seq acc c, slots := #[] } := hl
      have hG : ZG P1 P2 h'.objs.size h'' as := hG
      have kp : ∀ b o, s1.heap.get? b = some o → h''.get? b = some o := fun b o eb => by
        have hb := Heap.lt_size eb
        exact hk2 b o (Nat.ne_of_lt (Nat.lt_of_lt_of_le hb (Nat.le_add_right _ _))) (Nat.ne_of_lt (Nat.lt_of_lt_of_le hb (Nat.le_add_right _ _))) (Nat.ne_of_lt hb) (Nat.ne_of_lt (Nat.lt_of_lt_of_le hb (Nat.le_add_right _ _))) (hk b o eb)
      have nd : as.Nodup := hG.rise.imp fun z => Nat.ne_of_lt z
      have hsz : s1.heap.objs.size ≤ h'.objs.size := by rw [z6]; exact Nat.le_add_right _ _
      have fr : ∀ b, s1.heap.objs.size ≤ b → H1 b = none := fun b hb => I1.hok.fresh hb
      have ab : ∀ b ∈ as, s1.heap.objs.size ≤ b := fun b hb => Nat.le_trans hsz (Nat.le_of_lt (hG.above b hb))
      have na : h'.objs.size ∉ as := fun z => Nat.lt_irrefl _ (hG.above _ z)
      have hlz : as.length = (xs.zip ys).length := by rw [hlen, List.length_zip]
      have sm1 : Same H1 (layT H1 as (xs.zip ys)) := layT_same (fun b hb => fr b (ab b hb)) _
      have na1 : layT H1 as (xs.zip ys) h'.objs.size = none := by rw [layT_old _ _ na]; exact fr _ hsz
      have sm : Same H1 (upd (layT H1 as (xs.zip ys)) h'.objs.size (.lst (as.map V.ref))) := fun b o eb => by
        rw [upd_ne (ne_of_none (sm1 b o eb) na1)]
        exact sm1 b o eb
      refine ⟨.ref h'.objs.size, _, I1.un (h' := h'') (t' := tk) ⟨fun b o eb _ _ _ => kp b o eb, fun b o eb _ _ _ => ⟨o.slots, kp b o eb⟩, fun b o eb nb _ => ?_, fun b o eb _ => ⟨o, kp b o eb⟩, fun b zs eb => sm _ _ eb, fun b o u eb => sm _ _ eb, fun b ps eb => ⟨#[], by rw [sm _ _ eb]; simp⟩⟩ ?_, rfl, q h'.objs.size as (fr _ hsz) (fun b hb => fr b (ab b hb)) na nd hlz⟩
      · have hb := Heap.lt_size eb
        rw [upd_ne (Nat.ne_of_lt (Nat.lt_of_lt_of_le hb hsz)), layT_old _ _ fun z => Nat.lt_irrefl _ (Nat.lt_of_lt_of_le hb (ab b z))]
        exact nb
      · show HOk X.prog X.w (upd (layT H1 as (xs.zip ys)) h'.objs.size (.lst (as.map V.ref))) h''
        intro b u eb
        by_cases hb : b = h'.objs.size
        · subst hb
          rw [upd_same] at eb
          cases eb
          refine ⟨by rw [List.length_map, hlen]; exact hn, acc.toList, c, ?_, by rw [Array.toArray_toList]; exact hl⟩
          rw [hacc]
          exact vals_refs as
        · rw [upd_ne hb] at eb
          rcases layT_get as _ b u hlz eb with ⟨h1, h2⟩ | ⟨j, x, y, j1, j2, rfl⟩
          · exact (I1.hok b u h2).stay (fun c o _ ec => kp c o ec) (fun c ec => sm _ _ ec) (fun c zs ec => sm _ _ ec)
          · obtain ⟨x1, x2, p1, p2, tt⟩ := hG.pairs j b j1
            obtain ⟨vx, ex, rx⟩ := y1 j x1 p1
            obtain ⟨vy, ey, ry⟩ := y2 j x2 p2
            have : (xs.zip ys)[j]? = some (vx, vy) := by rw [List.getElem?_zip_eq_some]; exact ⟨ex, ey⟩
            rw [this] at j2
            cases j2
            exact ⟨show 2 ≤ sizeLine by decide, [x1, x2], .cons rx (.cons ry .nil), _, tt, rfl, 0, rfl⟩

/-! ### on data -/
def zipD : List Dat → List Dat → List Dat
  | x :: xs, y :: ys => .tup [x, y] :: zipD xs ys
  | _, _ => []
def itemsLT : Dat → Option (List Dat)
  | .lst ds => some ds
  | .tup ds => some ds
  | _ => none
def semLzip (d e : Dat) : Option Out := (itemsLT d).bind fun xs => (itemsLT e).bind fun ys => some (.fresh (.lst (zipD xs ys)))
section
variable {K : Kw} {F H : Hp}
theorem seen_kd (sm : Same F H) {d : Dat} {v : V} {ds : List Dat} (h : Seen K F H d v) (e : itemsLT d = some ds) : ∃ (k : Kd) (xs : List V), v = k.v ∧ k.has K.K H xs ∧ xs.length ≤ sizeLine ∧ DenL K F ds xs := by
  cases d with
  | lst es =>
    cases e
    obtain ⟨a, xs, rfl, hx, l, r⟩ := h
    exact ⟨.l a, xs, rfl, hx, l, r⟩
  | tup es =>
    cases e
    obtain ⟨a, xs, rfl, hx, l, r⟩ := h
    exact ⟨.t a, xs, rfl, Same.seqT sm hx, l, r⟩
  | _ => cases e
theorem lz_den {F' : Hp} (sf : Same F F') : ∀ (ds es : List Dat) (xs ys : List V) (as : List Addr), DenL K F ds xs → DenL K F es ys → as.length = (xs.zip ys).length → (∀ (j : Nat) (a : Addr) (x y : V), as[j]? = some a → (xs.zip ys)[j]? = some (x, y) → F' a = some (.tup [x, y])) → DenL K F' (zipD ds es) (as.map V.ref)
  | [], es, xs, ys, as, h1, h2, hl, h => by
    cases h1
    obtain rfl : as = [] := List.length_eq_zero_iff.mp hl
    cases es <;> exact rfl
  | d :: ds, [], xs, ys, as, h1, h2, hl, h => by
    cases h2
    rw [List.zip_nil_right] at hl
    obtain rfl : as = [] := List.length_eq_zero_iff.mp hl
    exact rfl
  | d :: ds, e :: es, xs, ys, as, ⟨v, vs, e1, q1, r1⟩, ⟨w, ws, e2, q2, r2⟩, hl, h => by
    cases e1
    cases e2
    cases as with
    | nil => cases hl
    | cons a as =>
      refine DenL.cons ⟨a, [v, w], rfl, SqT.of (h 0 a v w rfl rfl), show 2 ≤ sizeLine by decide, DenL.cons (Den.mono sf d q1) (DenL.one (Den.mono sf e q2))⟩ (lz_den sf ds es vs ws as r1 r2 (Nat.succ.inj hl) fun j b x y j1 j2 => h (j + 1) b x y j1 j2)
theorem lz_new (sm : Same F H) {ds es : List Dat} {xs ys : List V} {a : Addr} {as : List Addr} (l : min xs.length ys.length ≤ sizeLine) (r1 : DenL K F ds xs) (r2 : DenL K F es ys) (ha : H a = none) (hn : ∀ b ∈ as, H b = none) (na : a ∉ as) (nd : as.Nodup) (hl : as.length = (xs.zip ys).length) :
    NewOk K F H (.ref a) (upd (layT H as (xs.zip ys)) a (.lst (as.map V.ref))) (.fresh (.lst (zipD ds es))) := by
  have fn : ∀ b, H b = none → F b = none := fun b hb => sm.free hb
  have s1 : Same F (layT F as (xs.zip ys)) := layT_same (fun b hb => fn b (hn b hb)) _
  have sh : Same H (layT H as (xs.zip ys)) := layT_same hn _
  have na2 : layT H as (xs.zip ys) a = none := by rw [layT_old _ _ na]; exact ha
  have s2 : Same (layT F as (xs.zip ys)) (layT H as (xs.zip ys)) := fun b o e => by
    rcases layT_get as _ b o hl e with ⟨h1, h2⟩ | ⟨j, x, y, j1, j2, rfl⟩
    · exact sh b o (sm b o h2)
    · exact layT_at as _ j b x y nd j1 j2
  refine ⟨layT F as (xs.zip ys), a, New.of s1 (fun b o e => ?_) (fun b o e => ?_) (fun b o e => ?_), rfl, ha, ?_, as.map V.ref, upd_same, ?_, ?_⟩
  · rw [upd_ne (ne_of_none (s2 b o e) na2)]; exact s2 b o e
  · rw [upd_ne (ne_of_none (sh b o e) na2)]; exact sh b o e
  · rcases layT_get as _ b o hl e with ⟨h1, h2⟩ | ⟨j, x, y, j1, j2, rfl⟩
    · exact .inl h2
    · exact .inr (hn b (List.mem_of_getElem? j1))
  · rw [layT_old _ _ na]; exact fn a ha
  · rw [List.length_map, hl, List.length_zip]; exact l
  · exact lz_den s1 ds es xs ys as r1 r2 hl fun j b x y j1 j2 => layT_at as _ j b x y nd j1 j2
end
theorem lz_rule {X : Cx} {G : CK} {v w : V} {H : Hp} {Q : VK} (h : rC2 (X.kw G) semLzip [v, w] H Q) : ∃ (v' w' : Kd) (xs ys : List V), [v, w] = [v'.v, w'.v] ∧ v'.has X.K H xs ∧ w'.has X.K H ys ∧ min xs.length ys.length ≤ sizeLine ∧
  ∀ (a : Addr) (as : List Addr), H a = none → (∀ b ∈ as, H b = none) → a ∉ as → as.Nodup → as.length = (xs.zip ys).length → Q (.ref a) (upd (layT H as (xs.zip ys)) a (.lst (as.map V.ref))) := by
  obtain ⟨x, y, e, F, d, e2, o, sm, h1, h2, ho, q⟩ := h
  cases e
  unfold semLzip at ho
  obtain ⟨ds, hd, ho⟩ := Option.bind_eq_some_iff.mp ho
  obtain ⟨es, he, ho⟩ := Option.bind_eq_some_iff.mp ho
  cases ho
  obtain ⟨k1, xs, rfl, a1, l1, r1⟩ := seen_kd sm h1 hd
  obtain ⟨k2, ys, rfl, a2, l2, r2⟩ := seen_kd sm h2 he
  have l : min xs.length ys.length ≤ sizeLine := Nat.le_trans (Nat.min_le_left _ _) l1
  exact ⟨k1, k2, xs, ys, rfl, a1, a2, l, fun a as ha hn na nd hl => q _ _ (lz_new sm l r1 r2 ha hn na nd hl)⟩
end Dl

/-! D3: a small language of plain data, how it runs, and which text it stands for. -/
namespace Dl
open PySem PySem.Spec PyProof.Rows L2

inductive K1 where
  | len | int | list | tuple | sorted | neg | isi (t : String) | sset | abs | sum | all | maxL | minL | lrg | lset | dctP
inductive K2 where
  | add | sub | mul | div | mod | pow | eq | ne | lt | le | gt | ge | is | isNot | isIn | notIn | at | index | join | min2 | max2 | bor | lzip
  deriving DecidableEq

def semNeg : Dat → Option Out
  | .int i => some (.val (.int (-i)))
  | _ => none
def sem1 : K1 → Dat → Option Out
  | .len => semLen
  | .int => semInt
  | .list => semList
  | .tuple => semTuple
  | .sorted => semSorted
  | .neg => semNeg
  | .isi t => semIsi t
  | .sset => semSset
  | .abs => semAbs
  | .sum => semSum
  | .all => semAll
  | .maxL => semMaxL
  | .minL => semMinL
  | .lrg => semLrg
  | .lset => semLset
  | .dctP => semDctP
def sem2 : K2 → Dat → Dat → Option Out
  | .add => semAdd
  | .sub => semSub
  | .mul => semMul
  | .div => semDiv
  | .mod => semMod
  | .pow => semPow
  | .eq => semEq
  | .ne => semNe
  | .lt => semLt
  | .le => semLe
  | .gt => semGt
  | .ge => semGe
  | .is => semIs
  | .isNot => semIsNot
  | .isIn => semIn
  | .notIn => semNotIn
  | .at => semAt
  | .index => semIndex
  | .join => semJoin
  | .min2 => semMin2
  | .max2 => semMax2
  | .bor => semBor
  | .lzip => semLzip
def isStr : Dat → Bool
  | .str _ => true
  | _ => false
def isDct : Dat → Bool
  | .dct _ _ => true
  | _ => false
def isLst : Dat → Bool
  | .lst _ => true
  | _ => false
/-- a method's receiver, known ahead of its arguments -/
def pre2 : K2 → Dat → Bool
  | .index, d => isStr d
  | .join, d => isStr d
  | _, _ => true

/-- a target: a name, or names of a tuple's items -/
inductive Tg where
  | name (i : Nat) | tup (is : List Nat)

mutual
inductive E where
  | var (i : Nat)
  | non | bl (b : Bool) | int (n : Int) | str (x : Str)
  | tup (es : Es) | lst (es : Es)
  | op1 (k : K1) (a : E) | op2 (k : K2) (a b : E)
  | cut (a : E) (lo hi : Oe) | rev (a : E)
  | and (a b : E) | or (a b : E) | not (a : E)
  | ite (t : T) (a b : E)
  | call (f : Str) (es : Es) | callB (f : Str) (es : Es)
  | pop (i : Nat) (a : E)
  | app (i : Nat) (a : E)
  | dct (es : Es) | setd (i : Nat) (k x : E) | ins (i : Nat) (a b : E) | pop0 (i : Nat) | ext (i : Nat) (a : E) | call0 (f : Str) | step (a : E) (lo : Oe) (st : E) | bor (e : E)
  | callF (i : Nat) (es : Es)
  | comp (own : List Nat) (tg : Tg) (src : Src) (c : Ot) (elt : E)
inductive Es where
  | nil | cons (e : E) (es : Es)
inductive Oe where
  | no | yes (e : E)
inductive Ot where
  | no | yes (t : T)
inductive T where
  | val (e : E) | cmp (k : K2) (a b : E) | not (t : T) | and (a b : T) | or (a b : T)
inductive Src where
  | seq (e : E) | rng1 (a : E) | rng2 (a b : E) | zip (es : Es) | enm (es : Es) | rng3 (es : Es)
end

mutual
inductive S where
  | expr (e : E) | set (i : Nat) (e : E) | unp (is : List Nat) (e : E) | setAt (i : Nat) (ix e : E) | aug (i : Nat) (k : K2) (e : E)
  | ife (t : T) (a b : Ss) | for_ (tg : Tg) (src : Src) (body : Ss) (wp : List Nat) | whl (t : T) (body : Ss) (wp : List Nat)
  | ret (e : E) | retN | pass | brk | cont
inductive Ss where
  | nil | cons (s : S) (ss : Ss)
end

/-- the defs that may be called: what they give (and leave in the list that they may change), and which parameter that is -/
structure Wd where
  phi : Str → List Dat → Option (Out × Dat)
  io : Str → Option (Option Nat)

def truthD : Dat → Option Bool
  | .non => some false
  | .bl b => some b
  | .int i => some (i != 0)
  | .str x => some ((x.length : Int) != 0)
  | .tup ds => some (!ds.isEmpty)
  | .lst ds => some (!ds.isEmpty)
  | _ => none

def wipeR (r : Rho) : List Nat → Rho
  | [] => r
  | i :: is => (wipeR r is).set i none
/-- behind a comprehension: its own slots as they were ahead of it, where they were settled -/
def back (r₁ : Rho) (r : Rho) : List Nat → Rho
  | [] => r
  | i :: is => (back r₁ r is).set i (match look r₁ i with | some ⟨d, .fz⟩ => some ⟨d, .fz⟩ | _ => none)
def putAll (r : Rho) : List Nat → List Dat → Option Rho
  | [], [] => some r
  | i :: is, d :: ds => putAll (r.set i (some ⟨d, .fz⟩)) is ds
  | _, _ => none
def bindT (r : Rho) : Tg → Dat → Option Rho
  | .name i, d => some (r.set i (some ⟨d, .fz⟩))
  | .tup is, .tup ds => putAll r is ds
  | .tup is, .lst ds => putAll r is ds
  | _, _ => none
/-- what is walked of a datum -/
def items : Dat → Option (List Dat)
  | .lst ds => some ds
  | .tup ds => some ds
  | .str x => some ((signs x).map .str)
  | _ => none
def enumD (i : Nat) : List Dat → List Dat
  | [] => []
  | x :: xs => .tup [.int (i : Nat), x] :: enumD (i + 1) xs
/-- lo, lo + c, .. (n of them) -/
def rangeC (lo c : Int) (n : Nat) : List Dat := (List.range n).map fun k => .int (lo + (k : Nat) * c)
def rngN (i j c : Int) : Option Nat := if c ≠ 0 ∧ c.natAbs < 1073741824 ∧ Builtin.Range.small i j c = true ∧ (Builtin.Range.rangeSize i j c).toNat ≤ sizeLine ∧ 0 ≤ Builtin.Range.rangeSize i j c then some (Builtin.Range.rangeSize i j c).toNat else none
def rangeD (lo : Int) (n : Nat) : List Dat := (List.range n).map fun k => .int (lo + (k : Nat))
/-- may this be handed over to be changed -/
def lend (r : Rho) : Out → Option Out
  | .fresh d => some (.fresh d)
  | .place i => match look r i with
    | some ⟨_, .fz⟩ => none
    | some _ => some (.place i)
    | none => none
  | .val _ => none
def resAll (r : Rho) : List Out → Option (List Dat)
  | [] => some []
  | o :: os => do
    let d ← res r o
    let ds ← resAll r os
    some (d :: ds)
/-- the changed list comes back -/
def giveBack (r : Rho) : Option Nat → List Out → Dat → Option Rho
  | none, _, _ => some r
  | some k, os, d => match os[k]? with
    | some (.place i) => match look r i with
      | some ⟨_, .own⟩ => some (r.set i (some ⟨d, .own⟩))
      | some ⟨_, .io⟩ => some (r.set i (some ⟨d, .io⟩))
      | _ => none
    | some (.fresh _) => some r
    | _ => none
/-- a function's place in the table of defs -/
def cloKey (c : Nat) : Str := ⟨#[35, c]⟩
mutual
/-- no function in it -/
def noFn : Dat → Bool
  | .tup ds => noFns ds
  | .lst ds => noFns ds
  | .dct ks vs => noFns ks && noFns vs
  | .fn _ _ => false
  | _ => true
def noFns : List Dat → Bool
  | [] => true
  | d :: ds => noFn d && noFns ds
end
/-- what a function may capture: plain data, functions that capture nothing -/
def envD : Dat → Bool
  | .fn _ [] => true
  | d => noFn d
def envOf (r : Rho) : List Nat → Option (List Dat)
  | [] => some []
  | j :: js => match look r j with
    | some ⟨d, .fz⟩ => (envOf r js).map (d :: ·)
    | _ => none
/-- what a call gave, if it is plain -/
def plainO (r : Rho) : Out × Dat → Option (Out × Rho)
  | (.val x, _) => if noFn x = true then some (.val x, r) else none
  | _ => none
/-- all slots settled -/
def fzAll (r : Rho) : Rho := r.map (Option.map fun s => ⟨s.d, .fz⟩)
/-- the items of a comprehension -/
def compD (f : Dat → Rho → Option (Option Dat × Rho)) : List Dat → Rho → Option (List Dat × Rho)
  | [], r => some ([], r)
  | d :: ds, r => do
    let (x, r) ← f d r
    let (xs, r) ← compD f ds r
    some ((match x with | some x => x :: xs | none => xs), r)

mutual
def run (W : Wd) : E → Rho → Option (Out × Rho)
  | .var i, r => do
    let _ ← look r i
    some (.place i, r)
  | .non, r => some (.val .non, r)
  | .bl b, r => some (.val (.bl b), r)
  | .int n, r => some (.val (.int n), r)
  | .str x, r => some (.val (.str x), r)
  | .tup es, r => do
    let (ds, r) ← runL W es r
    some (.val (.tup ds), r)
  | .lst es, r => do
    let (ds, r) ← runL W es r
    some (.fresh (.lst ds), r)
  | .op1 k a, r => do
    let (o, r) ← run W a r
    let d ← res r o
    let o ← sem1 k d
    some (o, r)
  | .op2 k a b, r => do
    let (o, r) ← run W a r
    let d1 ← res r o
    if pre2 k d1 = true then
      let (o2, r) ← run W b r
      let d ← res r o
      let e ← res r o2
      let o ← sem2 k d e
      some (o, r)
    else none
  | .cut a lo hi, r => do
    let (o, r) ← run W a r
    let (l, r) ← runO W lo r
    let (h, r) ← runO W hi r
    let d ← res r o
    let o ← semCut d l h
    some (o, r)
  | .rev a, r => do
    let (o, r) ← run W a r
    let d ← res r o
    let o ← semRev d
    some (o, r)
  | .and a b, r => do
    let (o, r) ← run W a r
    let (d, r) ← frz r o
    let t ← truthD d
    if t = true then run W b r else some (.val d, r)
  | .or a b, r => do
    let (o, r) ← run W a r
    let (d, r) ← frz r o
    let t ← truthD d
    if t = true then some (.val d, r) else run W b r
  | .not a, r => do
    let (o, r) ← run W a r
    let d ← res r o
    let t ← truthD d
    some (.val (.bl (!t)), r)
  | .ite t a b, r => do
    let (c, r) ← runT W t r
    if c = true then run W a r else run W b r
  | .call f es, r => do
    let io ← W.io f
    let (os, r) ← runA W es io r
    let ds ← resAll r os
    let (o, d) ← W.phi f ds
    let r ← giveBack r io os d
    some (o, r)
  | .callB f es, r => do
    let io ← W.io f
    if io = none then
      let (os, r) ← runP W es r
      let ds ← resAll r os
      let (o, _) ← W.phi f ds
      match o with
      | .val d => if flatD d = true then some (.val d, r) else none
      | _ => none
    else none
  | .pop i a, r => do
    let s ← look r i
    if isLst s.d = true then
      let (o, r) ← run W a r
      let d ← res r o
      match look r i, d with
      | some ⟨.lst ds, .own⟩, .int k => do
        let j ← ixN ds.length k
        let x ← ds[j]?
        some (.val x, r.set i (some ⟨.lst (ds.eraseIdx j), .own⟩))
      | some ⟨.lst ds, .io⟩, .int k => do
        let j ← ixN ds.length k
        let x ← ds[j]?
        some (.val x, r.set i (some ⟨.lst (ds.eraseIdx j), .io⟩))
      | _, _ => none
    else none
  | .app i a, r => do
    let s ← look r i
    if isLst s.d = true then
      let (o, r) ← run W a r
      let (x, r) ← frz r o
      match look r i with
      | some ⟨.lst ds, .own⟩ => if ds.length < sizeLine then some (.val .non, r.set i (some ⟨.lst (ds ++ [x]), .own⟩)) else none
      | some ⟨.lst ds, .io⟩ => if ds.length < sizeLine then some (.val .non, r.set i (some ⟨.lst (ds ++ [x]), .io⟩)) else none
      | _ => none
    else none
  | .dct es, r => do
    let (ds, r) ← runL W es r
    let d ← mkD ds [] []
    some (.fresh d, r)
  | .setd i k x, r => do
    let s ← look r i
    if isDct s.d = true then
      let (o, r) ← run W k r
      let (kd, r) ← frz r o
      let (o, r) ← run W x r
      let (xd, r) ← frz r o
      match look r i with
      | some ⟨.dct ks vs, .own⟩ => if okey ks kd = true ∧ ks.length < sizeLine ∧ vs.length = ks.length then (match getV kd ks vs with
          | some e => some (.val e, r)
          | none => some (.val xd, r.set i (some ⟨putD kd xd ks vs, .own⟩))) else none
      | some ⟨.dct ks vs, .io⟩ => if okey ks kd = true ∧ ks.length < sizeLine ∧ vs.length = ks.length then (match getV kd ks vs with
          | some e => some (.val e, r)
          | none => some (.val xd, r.set i (some ⟨putD kd xd ks vs, .io⟩))) else none
      | _ => none
    else none
  | .ins i a b, r => do
    let s ← look r i
    if isLst s.d = true then
      let (o, r) ← run W a r
      let (k, r) ← frz r o
      let (o, r) ← run W b r
      let (x, r) ← frz r o
      match look r i, k with
      | some ⟨.lst ds, .own⟩, .int k => if ds.length < sizeLine ∧ 0 ≤ k ∧ k < 2 ^ 63 then some (.val .non, r.set i (some ⟨.lst (ds.take k.toNat ++ [x] ++ ds.drop k.toNat), .own⟩)) else none
      | some ⟨.lst ds, .io⟩, .int k => if ds.length < sizeLine ∧ 0 ≤ k ∧ k < 2 ^ 63 then some (.val .non, r.set i (some ⟨.lst (ds.take k.toNat ++ [x] ++ ds.drop k.toNat), .io⟩)) else none
      | _, _ => none
    else none
  | .pop0 i, r => do
    let s ← look r i
    match s with
    | ⟨.lst ds, .own⟩ => do
      let x ← ds[ds.length - 1]?
      some (.val x, r.set i (some ⟨.lst ds.dropLast, .own⟩))
    | ⟨.lst ds, .io⟩ => do
      let x ← ds[ds.length - 1]?
      some (.val x, r.set i (some ⟨.lst ds.dropLast, .io⟩))
    | _ => none
  | .ext i a, r => do
    let s ← look r i
    if isLst s.d = true then
      let (o, r) ← run W a r
      match look r i, o with
      | some ⟨.lst ds, .own⟩, .fresh (.lst es) => if ds.length + es.length ≤ sizeLine then some (.val .non, r.set i (some ⟨.lst (ds ++ es), .own⟩)) else none
      | some ⟨.lst ds, .io⟩, .fresh (.lst es) => if ds.length + es.length ≤ sizeLine then some (.val .non, r.set i (some ⟨.lst (ds ++ es), .io⟩)) else none
      | _, _ => none
    else none
  | .call0 f, r => do
    let io ← W.io f
    if io = none then
      let (o, _) ← W.phi f []
      some (o, r)
    else none
  | .step a lo st, r => do
    let (o, r) ← run W a r
    let (l, r) ← runO W lo r
    let (o2, r) ← run W st r
    let d ← res r o
    match res r o2 with
    | some (.int k) => do
      let o ← semStep d l k
      some (o, r)
    | _ => none
  | .bor e, r => do
    let (o, _) ← run W e (fzAll r)
    match o with
    | .fresh (.lst xs) => if xs.all flatD = true then some (.fresh (.lst xs), r) else none
    | .val d => if flatD d = true then some (.val d, r) else none
    | _ => none
  | .callF i es, r => do
    let s ← look r i
    match s with
    | ⟨.fn c env, .fz⟩ => do
      let (os, r) ← runA W es none r
      let ds ← resAll r os
      if noFns ds = true then
        let z ← W.phi (cloKey c) (ds ++ env)
        plainO r z
      else none
    | _ => none
  | .comp own tg src c elt, r => do
    let (ds, r₁) ← runI W src r
    let (xs, r₂) ← compD (fun d r => do
      let r ← bindT r tg d
      let (t, r) ← runOt W c r
      if t = true then
        let (o, r) ← run W elt r
        let (x, r) ← frz r o
        some (some x, wipeR r own)
      else some (none, wipeR r own)) ds (wipeR r₁ own)
    some (.fresh (.lst xs), back r₁ r₂ own)
def runL (W : Wd) : Es → Rho → Option (List Dat × Rho)
  | .nil, r => some ([], r)
  | .cons e es, r => do
    let (o, r) ← run W e r
    let (d, r) ← frz r o
    let (ds, r) ← runL W es r
    some (d :: ds, r)
def runA (W : Wd) : Es → Option Nat → Rho → Option (List Out × Rho)
  | .nil, _, r => some ([], r)
  | .cons e es, some 0, r => do
    let (o, r) ← run W e r
    let o ← lend r o
    let (os, r) ← runA W es none r
    some (o :: os, r)
  | .cons e es, some (k + 1), r => do
    let (o, r) ← run W e r
    let (d, r) ← frz r o
    let (os, r) ← runA W es (some k) r
    some (.val d :: os, r)
  | .cons e es, none, r => do
    let (o, r) ← run W e r
    let (d, r) ← frz r o
    let (os, r) ← runA W es none r
    some (.val d :: os, r)
def runP (W : Wd) : Es → Rho → Option (List Out × Rho)
  | .nil, r => some ([], r)
  | .cons e es, r => do
    let (o, r) ← run W e r
    let (os, r) ← runP W es r
    some (o :: os, r)
def runO (W : Wd) : Oe → Rho → Option (Option Int × Rho)
  | .no, r => some (none, r)
  | .yes e, r => do
    let (o, r) ← run W e r
    match res r o with
    | some (.int i) => some (some i, r)
    | _ => none
def runOt (W : Wd) : Ot → Rho → Option (Bool × Rho)
  | .no, r => some (true, r)
  | .yes t, r => runT W t r
def runT (W : Wd) : T → Rho → Option (Bool × Rho)
  | .val e, r => do
    let (o, r) ← run W e r
    let d ← res r o
    let t ← truthD d
    some (t, r)
  | .cmp k a b, r => do
    let (o, r) ← run W a r
    let (o2, r) ← run W b r
    let d ← res r o
    let e ← res r o2
    match sem2 k d e with
    | some (.val (.bl t)) => some (t, r)
    | _ => none
  | .not t, r => do
    let (c, r) ← runT W t r
    some (!c, r)
  | .and a b, r => do
    let (c, r) ← runT W a r
    if c = true then runT W b r else some (false, r)
  | .or a b, r => do
    let (c, r) ← runT W a r
    if c = true then some (true, r) else runT W b r
def runI (W : Wd) : Src → Rho → Option (List Dat × Rho)
  | .seq e, r => do
    let (o, r) ← run W e r
    let (d, r) ← frz r o
    let ds ← items d
    some (ds, r)
  | .rng1 a, r => do
    let (o, r) ← run W a r
    match res r o with
    | some (.int n) => if -(2 ^ 62) ≤ n ∧ n.toNat ≤ sizeLine then some (rangeD 0 n.toNat, r) else none
    | _ => none
  | .rng2 a b, r => do
    let (o, r) ← run W a r
    let (o2, r) ← run W b r
    match res r o, res r o2 with
    | some (.int i), some (.int j) => if -(2 ^ 62) ≤ i ∧ i < 2 ^ 62 ∧ -(2 ^ 62) ≤ j ∧ j < 2 ^ 62 ∧ (j - i).toNat ≤ sizeLine then some (rangeD i (j - i).toNat, r) else none
    | _, _ => none
  | .zip es, r => do
    let (ds, r) ← runL W es r
    match ds with
    | [d, e] => do
      let xs ← items d
      let ys ← items e
      some (zipD xs ys, r)
    | _ => none
  | .enm es, r => do
    let (ds, r) ← runL W es r
    match ds with
    | [d] => do
      let xs ← items d
      some (enumD 0 xs, r)
    | _ => none
  | .rng3 es, r => do
    let (ds, r) ← runL W es r
    match ds with
    | [.int i, .int j, .int c] => do
      let n ← rngN i j c
      some (rangeC i c n, r)
    | _ => none
end

/-- how a statement ends -/
inductive Fl where
  | next (r : Rho) | ret (o : Out) (r : Rho) | brk (r : Rho) | cont (r : Rho)
def forD (f : Dat → Rho → Option Fl) (wp : List Nat) : List Dat → Rho → Option Fl
  | [], r => some (.next r)
  | d :: ds, r => match f d r with
    | some (.next r) => forD f wp ds (wipeR r wp)
    | some (.cont r) => forD f wp ds (wipeR r wp)
    | some (.brk r) => some (.next (wipeR r wp))
    | some (.ret o r) => some (.ret o r)
    | none => none
def whlD (c : Rho → Option (Bool × Rho)) (b : Rho → Option Fl) (wp : List Nat) : Nat → Rho → Option Fl
  | 0, _ => none
  | n + 1, r => match c r with
    | some (true, r) => match b r with
      | some (.next r) => whlD c b wp n (wipeR r wp)
      | some (.cont r) => whlD c b wp n (wipeR r wp)
      | some (.brk r) => some (.next (wipeR r wp))
      | some (.ret o r) => some (.ret o r)
      | none => none
    | some (false, r) => some (.next (wipeR r wp))
    | none => none
/-- a slot takes what an expression gave -/
def store (r : Rho) (i : Nat) : Out → Option Rho
  | .val d => some (r.set i (some ⟨d, .fz⟩))
  | .fresh d => some (r.set i (some ⟨d, .own⟩))
  | .place j => do
    let (d, r) ← frz r (.place j)
    some (r.set i (some ⟨d, .fz⟩))
mutual
def runS (W : Wd) (n : Nat) : S → Rho → Option Fl
  | .expr e, r => do
    let (_, r) ← run W e r
    some (.next r)
  | .set i e, r => do
    let (o, r) ← run W e r
    let r ← store r i o
    some (.next r)
  | .unp is e, r => do
    let (o, r) ← run W e r
    let (d, r) ← frz r o
    match d with
    | .tup ds => do
      let r ← putAll r is ds
      some (.next r)
    | .lst ds => do
      let r ← putAll r is ds
      some (.next r)
    | _ => none
  | .setAt i ix e, r => do
    let (o, r) ← run W e r
    let (x, r) ← frz r o
    let _ ← look r i
    let (o2, r) ← run W ix r
    match look r i, res r o2 with
    | some ⟨.lst ds, .own⟩, some (.int k) => do
      let j ← ixN ds.length k
      some (.next (r.set i (some ⟨.lst (ds.set j x), .own⟩)))
    | some ⟨.lst ds, .io⟩, some (.int k) => do
      let j ← ixN ds.length k
      some (.next (r.set i (some ⟨.lst (ds.set j x), .io⟩)))
    | some ⟨.dct ks vs, .own⟩, some k => if okey ks k = true ∧ ks.length < sizeLine then some (.next (r.set i (some ⟨putD k x ks vs, .own⟩))) else none
    | some ⟨.dct ks vs, .io⟩, some k => if okey ks k = true ∧ ks.length < sizeLine then some (.next (r.set i (some ⟨putD k x ks vs, .io⟩))) else none
    | _, _ => none
  | .aug i k e, r => do
    let _ ← look r i
    let (o, r) ← run W e r
    match look r i, res r o with
    | some ⟨.int x, .fz⟩, some (.int y) => match k with
      | .add => some (.next (r.set i (some ⟨.int (x + y), .fz⟩)))
      | .sub => some (.next (r.set i (some ⟨.int (x - y), .fz⟩)))
      | _ => none
    | some ⟨.str x, .fz⟩, some (.str y) => match k with
      | .add => if x.length + y.length ≤ sizeLine then some (.next (r.set i (some ⟨.str (x ++ y), .fz⟩))) else none
      | _ => none
    | _, _ => none
  | .ife t a b, r => do
    let (c, r) ← runT W t r
    if c = true then runB W n a r else runB W n b r
  | .for_ tg src body wp, r => do
    let (ds, r) ← runI W src r
    forD (fun d r => do
      let r ← bindT r tg d
      runB W n body r) wp ds (wipeR r wp)
  | .whl t body wp, r => whlD (runT W t) (runB W n body) wp n (wipeR r wp)
  | .ret e, r => do
    let (o, r) ← run W e r
    some (.ret o r)
  | .retN, r => some (.ret (.val .non) r)
  | .pass, r => some (.next r)
  | .brk, r => some (.brk r)
  | .cont, r => some (.cont r)
def runB (W : Wd) (n : Nat) : Ss → Rho → Option Fl
  | .nil, r => some (.next r)
  | .cons s ss, r => match runS W n s r with
    | some (.next r) => runB W n ss r
    | x => x
end

/-- how a def ends that hands a function to another one: return g(es.., the function c), js: where what it captures stands, i: the slot of a nested def's name -/
structure Fin where
  g : Str
  es : Es
  c : Nat
  js : List Nat
  i : Option Nat
def runF (W : Wd) (kd : Nat) (F : Fin) (r : Rho) : Option (Out × Rho) := do
  let (os, r) ← runA W F.es none (match F.i with | some i => r.set i none | none => r)
  let ds ← resAll r os
  let env ← envOf r F.js
  if noFns ds = true ∧ env.all envD = true ∧ (kd = 0 → noFns env = true) then
    let z ← W.phi F.g (ds ++ [.fn F.c env])
    plainO r z
  else none
/-- a def: its names, how many of them are parameters, which one it may change, its body -/
structure Df where
  N : List Str
  ps : Nat
  io : Option Nat
  body : Ss
  /-- 0: a def, 1: a def to which a function is handed, 2: a function that is handed about -/
  kd : Nat := 0
  /-- of a function that is handed about: how many parameters are its own (the others are captured); a lambda? -/
  np : Nat := 0
  lam : Bool := false
  fin : Option Fin := none
def startR (D : Df) (ds : List Dat) : Rho :=
  ds.mapIdx (fun i d => some ⟨d, if D.io = some i then .io else .fz⟩) ++ List.replicate (D.N.length - ds.length) none
/-- what a def leaves in the list that it may change -/
def leftR (D : Df) (r : Rho) : Option Dat :=
  match D.io with
  | none => some .non
  | some i => match look r i with
    | some ⟨d, .io⟩ => some d
    | _ => none
/-- a def's body, with its end -/
def bodyM (W : Wd) (n : Nat) (D : Df) (r : Rho) : Option Fl := match D.fin with
  | none => runB W n D.body r
  | some F => match runB W n D.body r with
    | some (.next r) => (runF W D.kd F r).bind fun p => some (.ret p.1 p.2)
    | x => x
/-- a def's run -/
def runD (W : Wd) (n : Nat) (D : Df) (ds : List Dat) : Option (Out × Dat) :=
  if ds.length = D.ps then
    match bodyM W n D (startR D ds) with
    | some (.next r) => do
      let d ← leftR D r
      some (.val .non, d)
    | some (.ret (.val x) r) => do
      let d ← leftR D r
      some (.val x, d)
    | some (.ret (.fresh x) r) => do
      let d ← leftR D r
      some (.fresh x, d)
    | some (.ret (.place j) r) => match look r j with
      | some ⟨x, .fz⟩ => do
        let d ← leftR D r
        some (.val x, d)
      | some ⟨x, .own⟩ => do
        let d ← leftR D r
        some (.fresh x, d)
      | _ => none
    | _ => none
  else none
/-- a text's defs, called to the depth k -/
def Phi (T : List (Str × Df)) (n : Nat) : Nat → Wd
  | 0 => ⟨fun _ _ => none, fun f => (T.lookup f).map (·.io)⟩
  | k + 1 => ⟨fun f ds => match T.lookup f with | some D => runD (Phi T n k) n D ds | none => none, fun f => (T.lookup f).map (·.io)⟩
end Dl

/-! D4: the readings of the small language, and how they fit the layer's own. -/
namespace Dl
open PySem PySem.Spec PyProof.Rows L2

theorem bindS {α β : Type} {x : Option α} {f : α → Option β} {b : β} (h : x.bind f = some b) : ∃ a, x = some a ∧ f a = some b := Option.bind_eq_some_iff.mp h

theorem PE.imp {X : Cx} {e : Expr} {t t' : TE} (h : PE X e t) (i : ∀ σ H Q, t' σ H Q → t σ H Q) : PE X e t' := ⟨fun pins s σ H Q I q => h.run pins s σ H Q I (i σ H Q q)⟩
theorem PT.imp {X : Cx} {e : Expr} {t t' : TT} (h : PT X e t) (i : ∀ σ H Q, t' σ H Q → t σ H Q) : PT X e t' := ⟨fun pins s σ H Q I q => h.run pins s σ H Q I (i σ H Q q)⟩
theorem PA.imp {X : Cx} {e : List Expr} {t t' : TA} (h : PA X e t) (i : ∀ σ H Q, t' σ H Q → t σ H Q) : PA X e t' := ⟨fun pos pins s σ H Q I q => h.run pos pins s σ H Q I (i σ H Q q)⟩
theorem PS.imp {X : Cx} {e : Stmt} {t t' : TS} (h : PS X e t) (i : ∀ D σ H, t' D σ H → t D σ H) : PS X e t' := ⟨fun pins s σ H D I q => h.run pins s σ H D I (i D σ H q)⟩
theorem PSs.imp {X : Cx} {e : List Stmt} {t t' : TS} (h : PSs X e t) (i : ∀ D σ H, t' D σ H → t D σ H) : PSs X e t' := ⟨fun pins s σ H D I q => h.run pins s σ H D I (i D σ H q)⟩

/-! ### a thing that stays while something else is reckoned -/
def Fr.guard (A : Fr) (a : Addr) (o : HO) : Fr := { A with H0 := upd A.H0 a o }
section
variable {A : Fr} {r : Rho} {F H : Hp} {σ : L2.St} {a : Addr} {o : HO}
theorem Fit.guard (h : Fit A r F σ H) (ho : H a = some o) (nt : ∀ ps, o ≠ .tbl ps) (hf : F a = none) (hi : ¬ A.io a) (hm : ¬ Mine r σ a) : Fit (A.guard a o) r F σ H := by
  refine ⟨h.sub, fun b u e x => ?_, fun b u e => ?_, h.f0, h.ioh, fun i s e => ?_, h.sep, h.pro, h.len, h.tab, fun P hP => ⟨(upd_ne (h.tab.ne hP ho nt)).trans (h.tbo P hP).1, (h.tbo P hP).2⟩⟩
  · have e : upd A.H0 a o b = some u := e
    by_cases hb : b = a
    · subst hb
      rw [upd_same] at e
      cases e
      exact ho
    · rw [upd_ne hb] at e
      exact h.keep b u e x
  · rcases h.newf b u e with q | q
    · exact .inl q
    · refine .inr ?_
      show upd A.H0 a o b = none
      by_cases hb : b = a
      · subst hb
        rw [hf] at e
        cases e
      · rw [upd_ne hb]
        exact q
  · obtain ⟨v, e1, e2⟩ := h.slot i s e
    refine ⟨v, e1, ?_⟩
    unfold SlotOk at e2 ⊢
    split
    · rename_i z
      rw [z] at e2
      exact e2
    · rename_i z
      rw [z] at e2
      obtain ⟨b, rfl, h1, h2, h3, h4⟩ := e2
      refine ⟨b, rfl, h1, ?_, h3, h4⟩
      show upd A.H0 a o b = none
      rw [upd_ne (fun w => hm ⟨i, s, e, by rw [z]; decide, by rw [e1, w]⟩)]
      exact h2
    · rename_i z
      rw [z] at e2
      exact e2
theorem Fit.unguard (h : Fit (A.guard a o) r F σ H) (h0 : A.H0 a = none) (hf0 : A.F0 a = none) (hi : ¬ A.io a) : Fit A r F σ H ∧ H a = some o ∧ F a = none ∧ ¬ Mine r σ a := by
  have g : (A.guard a o).H0 a = some o := upd_same
  have gn : ∀ {b}, b ≠ a → (A.guard a o).H0 b = A.H0 b := fun {b} hb => upd_ne hb
  have fa : F a = none := by
    cases q : F a with
    | none => rfl
    | some u =>
      rcases h.newf a u q with z | z
      · rw [show (A.guard a o).F0 a = A.F0 a from rfl, hf0] at z
        cases z
      · rw [g] at z
        cases z
  refine ⟨⟨h.sub, fun b u e x => h.keep b u (by rw [gn (fun w => by rw [w, h0] at e; cases e)]; exact e) x, fun b u e => ?_, h.f0, h.ioh, fun i s e => ?_, h.sep, h.pro, h.len, h.tab, fun P hP => ⟨(gn (fun z => by have := (h.tbo P hP).1; rw [z, g] at this; cases this)).symm.trans (h.tbo P hP).1, (h.tbo P hP).2⟩⟩, h.keep a o g hi, fa, fun m => ?_⟩
  · have hb : b ≠ a := fun w => by rw [w, fa] at e; cases e
    rcases h.newf b u e with z | z
    · exact .inl z
    · rw [gn hb] at z
      exact .inr z
  · obtain ⟨v, e1, e2⟩ := h.slot i s e
    refine ⟨v, e1, ?_⟩
    unfold SlotOk at e2 ⊢
    split
    · rename_i z
      rw [z] at e2
      exact e2
    · rename_i z
      rw [z] at e2
      obtain ⟨b, rfl, h1, h2, h3, h4⟩ := e2
      have hb : b ≠ a := fun w => by rw [w, g] at h2; cases h2
      exact ⟨b, rfl, h1, by rw [← gn hb]; exact h2, h3, h4⟩
    · rename_i z
      rw [z] at e2
      exact e2
  · obtain ⟨h1, h2, _⟩ := h.mine m
    rcases h2 with ⟨z, _⟩ | z
    · rw [g] at z
      cases z
    · exact hi z
/-- other slots' values: what r knows is as it was -/
theorem Fit.moved (h : Fit A r F σ H) {r' : Rho} {σ' : L2.St} (hl : r'.length = σ'.length) (hs : ∀ (i : Nat) (s : Sl), r'[i]? = some (some s) → r[i]? = some (some s) ∧ σ'[i]? = σ[i]?) (hp : ∀ p ∈ A.pro, σ'[p.1]? = some (some p.2)) : Fit A r' F σ' H := by
  refine ⟨h.sub, h.keep, h.newf, h.f0, h.ioh, fun i s e => ?_, fun i j s t b n e1 m1 e2 m2 s1 => ?_, hp, hl, h.tab, h.tbo⟩
  · obtain ⟨q1, q2⟩ := hs i s e
    obtain ⟨v, e1, e2⟩ := h.slot i s q1
    exact ⟨v, q2.trans e1, e2⟩
  · obtain ⟨q1, q2⟩ := hs i s e1
    obtain ⟨q3, q4⟩ := hs j t e2
    rw [q2] at s1
    rw [q4]
    exact h.sep i j s t b n q1 m1 q3 m2 s1
end

/-! ### the readings -/
structure Ok (K : Kw) (pro : List Nat) (A : Fr) : Prop where
  k : A.K = K
  p : ∀ p ∈ A.pro, p.1 ∈ pro
theorem Ok.guard {K : Kw} {pro : List Nat} {A : Fr} (h : Ok K pro A) (a : Addr) (o : HO) : Ok K pro (A.guard a o) := ⟨h.k, h.p⟩

section
variable (K : Kw) (pro : List Nat)
def rdE (m : Rho → Option (Out × Rho)) : TE := fun σ H Q => ∃ A r F o r', Ok K pro A ∧ Fit A r F σ H ∧ m r = some (o, r') ∧ ∀ v F' H', Same F F' → Fit A r' F' σ H' → OutOk A r' F' σ H' o v → Q v H'
def rdL (m : Rho → Option (List Dat × Rho)) : TA := fun σ H Q => ∃ A r F ds r', Ok K pro A ∧ Fit A r F σ H ∧ m r = some (ds, r') ∧ ∀ vs F' H', Same F F' → Fit A r' F' σ H' → DenL A.K F' ds vs → Q vs H'
def rdT (m : Rho → Option (Bool × Rho)) : TT := fun σ H Q => ∃ A r F b r', Ok K pro A ∧ Fit A r F σ H ∧ m r = some (b, r') ∧ ∀ F' H', Same F F' → Fit A r' F' σ H' → Q b H'
def rdO (m : Rho → Option (Option Int × Rho)) : TO := fun σ H Q => ∃ A r F b r', Ok K pro A ∧ Fit A r F σ H ∧ m r = some (b, r') ∧ ∀ F' H', Same F F' → Fit A r' F' σ H' → Q b H'
/-- arguments: settled, or one that is lent -/
def OutsOk (A : Fr) (r : Rho) (F : Hp) (σ : L2.St) (H : Hp) : List Out → List V → Prop
  | [], vs => vs = []
  | o :: os, vs => ∃ v ws, vs = v :: ws ∧ OutOk A r F σ H o v ∧ OutsOk A r F σ H os ws
def rdA (m : Rho → Option (List Out × Rho)) : TA := fun σ H Q => ∃ A r F os r', Ok K pro A ∧ Fit A r F σ H ∧ m r = some (os, r') ∧ ∀ vs F' H', Same F F' → Fit A r' F' σ H' → OutsOk A r' F' σ H' os vs → Q vs H'
/-- what a statement reaches -/
def FlOk (A : Fr) (F : Hp) (D : Ends) : Fl → Prop
  | .next r' => ∀ σ' F' H', Same F F' → Fit A r' F' σ' H' → D.nx σ' H'
  | .brk r' => ∀ σ' F' H', Same F F' → Fit A r' F' σ' H' → D.bk σ' H'
  | .cont r' => ∀ σ' F' H', Same F F' → Fit A r' F' σ' H' → D.ct σ' H'
  | .ret o r' => ∀ v σ' F' H', Same F F' → Fit A r' F' σ' H' → OutOk A r' F' σ' H' o v → D.rt v H'
def rdS (m : Rho → Option Fl) : TS := fun D σ H => ∃ A r F fl, Ok K pro A ∧ Fit A r F σ H ∧ m r = some fl ∧ FlOk A F D fl
end

section
variable {K : Kw} {pro : List Nat} {W : Wd}
/-- two operands and an operation upon them -/
theorem imp_op2 {k : K2} {a b : E} {σ : L2.St} {H : Hp} {Q : VK} (h : rdE K pro (run W (.op2 k a b)) σ H Q) :
    tOp (rD2 K (sem2 k)) (rdE K pro (run W a)) (rdE K pro (run W b)) σ H Q := by
  obtain ⟨A, r, F, o, _, ok, fit, hm, q⟩ := h
  unfold run at hm
  obtain ⟨⟨oa, r1⟩, ha, hm⟩ := bindS hm
  obtain ⟨d1, hd1, hm⟩ := bindS hm
  dsimp only at hm
  split at hm
  · obtain ⟨⟨ob, r2⟩, hb, hm⟩ := bindS hm
    obtain ⟨d, hd, hm⟩ := bindS hm
    obtain ⟨e, he, hm⟩ := bindS hm
    obtain ⟨o3, ho, hm⟩ := bindS hm
    cases hm
    refine ⟨A, r, F, oa, _, ok, fit, ha, fun v1 F1 H1 s1 f1 k1 => ?_⟩
    obtain ⟨F1', s1', f1', h1⟩ := f1.hold k1
    refine ⟨A, r1, F1', ob, _, ok, f1', hb, fun v2 F2 H2 s2 f2 k2 => ?_⟩
    obtain ⟨F2', s2', f2', h2⟩ := f2.hold k2
    have g1 := Held.seen f2' (h1.mono (s2.trans s2')) hd
    have g2 := Held.seen f2' h2 he
    rw [ok.k] at g1 g2
    refine ⟨F2', d, e, _, f2'.sub, g1, g2, ho, fun v H' nw => ?_⟩
    rw [← ok.k] at nw
    obtain ⟨F3, s3, f3, k3⟩ := f2'.made nw
    exact q v F3 H' (((s1.trans s1').trans (s2.trans s2')).trans s3) f3 k3
  · cases hm
/-- a method of a text, one argument -/
theorem imp_meth {k : K2} {a b : E} {σ : L2.St} {H : Hp} {Q : VK} (hp : ∀ d, pre2 k d = isStr d) (h : rdE K pro (run W (.op2 k a b)) σ H Q) :
    tBM K "str" (rM1 K (sem2 k)) (rdE K pro (run W a)) (tCons (rdE K pro (run W b)) tNil) σ H Q := by
  obtain ⟨A, r, F, o, _, ok, fit, hm, q⟩ := h
  unfold run at hm
  obtain ⟨⟨oa, r1⟩, ha, hm⟩ := bindS hm
  obtain ⟨d1, hd1, hm⟩ := bindS hm
  dsimp only at hm
  split at hm
  · rename_i hpre
    rw [hp] at hpre
    obtain ⟨⟨ob, r2⟩, hb, hm⟩ := bindS hm
    obtain ⟨d, hd, hm⟩ := bindS hm
    obtain ⟨e, he, hm⟩ := bindS hm
    obtain ⟨o3, ho, hm⟩ := bindS hm
    cases hm
    refine ⟨A, r, F, oa, _, ok, fit, ha, fun v1 F1 H1 s1 f1 k1 => ?_⟩
    obtain ⟨F1', s1', f1', h1⟩ := f1.hold k1
    have hs : tyV K "str" v1 H1 := by
      have g := Held.seen f1' h1 hd1
      cases d1 with
      | str z => rw [g.1]; exact rfl
      | _ => exact absurd (show false = true from hpre) Bool.false_ne_true
    refine ⟨hs, A, r1, F1', ob, r2, ok, f1', hb, fun v2 F2 H2 s2 f2 k2 => ?_⟩
    obtain ⟨F2', s2', f2', h2⟩ := f2.hold k2
    have g1 := Held.seen f2' (h1.mono (s2.trans s2')) hd
    have g2 := Held.seen f2' h2 he
    rw [ok.k] at g1 g2
    refine ⟨v2, rfl, F2', d, e, _, f2'.sub, g1, g2, ho, fun v H' nw => ?_⟩
    rw [← ok.k] at nw
    obtain ⟨F3, s3, f3, k3⟩ := f2'.made nw
    exact q v F3 H' (((s1.trans s1').trans (s2.trans s2')).trans s3) f3 k3
  · cases hm
/-- one operand -/
theorem imp_op1 {k : K1} {a : E} {σ : L2.St} {H : Hp} {Q : VK} (h : rdE K pro (run W (.op1 k a)) σ H Q) :
    rdE K pro (run W a) σ H fun x H1 => rD1 K (sem1 k) x H1 Q := by
  obtain ⟨A, r, F, o, _, ok, fit, hm, q⟩ := h
  unfold run at hm
  obtain ⟨⟨oa, r1⟩, ha, hm⟩ := bindS hm
  obtain ⟨d, hd, hm⟩ := bindS hm
  obtain ⟨o3, ho, hm⟩ := bindS hm
  cases hm
  refine ⟨A, r, F, oa, _, ok, fit, ha, fun v1 F1 H1 s1 f1 k1 => ?_⟩
  obtain ⟨F1', s1', f1', h1⟩ := f1.hold k1
  have g1 := Held.seen f1' h1 hd
  rw [ok.k] at g1
  refine ⟨F1', d, _, f1'.sub, g1, ho, fun v H' nw => ?_⟩
  rw [← ok.k] at nw
  obtain ⟨F3, s3, f3, k3⟩ := f1'.made nw
  exact q v F3 H' ((s1.trans s1').trans s3) f3 k3
theorem imp_call1 {k : K1} {a : E} {σ : L2.St} {H : Hp} {Q : VK} (h : rdE K pro (run W (.op1 k a)) σ H Q) :
    tCB (rC1 K (sem1 k)) (tCons (rdE K pro (run W a)) tNil) σ H Q := by
  obtain ⟨A, r, F, o, _, ok, fit, hm, q⟩ := imp_op1 h
  exact ⟨A, r, F, o, _, ok, fit, hm, fun v F' H' s f k => ⟨v, rfl, q v F' H' s f k⟩⟩
theorem imp_call2 {k : K2} {a b : E} {σ : L2.St} {H : Hp} {Q : VK} (h : rdE K pro (run W (.op2 k a b)) σ H Q) :
    tCB (rC2 K (sem2 k)) (tCons (rdE K pro (run W a)) (tCons (rdE K pro (run W b)) tNil)) σ H Q := by
  obtain ⟨A, r, F, o, _, ok, fit, hm, q⟩ := imp_op2 h
  refine ⟨A, r, F, o, _, ok, fit, hm, fun v F' H' s f k => ?_⟩
  obtain ⟨A2, r2, F2, o2, _, ok2, fit2, hm2, q2⟩ := q v F' H' s f k
  exact ⟨A2, r2, F2, o2, _, ok2, fit2, hm2, fun v2 F3 H3 s3 f3 k3 => ⟨v, v2, rfl, q2 v2 F3 H3 s3 f3 k3⟩⟩
theorem imp_lzip {X : Cx} {G : CK} {a b : E} {σ : L2.St} {H : Hp} {Q : VK} (h : rdE (X.kw G) pro (run W (.op2 .lzip a b)) σ H Q) :
    tLz X (tCons (rdE (X.kw G) pro (run W a)) (tCons (rdE (X.kw G) pro (run W b)) tNil)) σ H Q := by
  obtain ⟨A, r, F, o, _, ok, fit, hm, q⟩ := imp_op2 h
  refine ⟨A, r, F, o, _, ok, fit, hm, fun v F' H' s f k => ?_⟩
  obtain ⟨A2, r2, F2, o2, _, ok2, fit2, hm2, q2⟩ := q v F' H' s f k
  exact ⟨A2, r2, F2, o2, _, ok2, fit2, hm2, fun v2 F3 H3 s3 f3 k3 => lz_rule ⟨v, v2, rfl, q2 v2 F3 H3 s3 f3 k3⟩⟩
theorem imp_sset {X : Cx} {G : CK} {a : E} {σ : L2.St} {H : Hp} {Q : VK} (h : rdE (X.kw G) pro (run W (.op1 .sset a)) σ H Q) :
    tCB (rSortSS X) (tCons (tCB (rSetS X) (tCons (rdE (X.kw G) pro (run W a)) tNil)) tNil) σ H Q := by
  obtain ⟨A, r, F, o, _, ok, fit, hm, q⟩ := imp_op1 h
  exact ⟨A, r, F, o, _, ok, fit, hm, fun v F' H' s f k => sset_rule (F := F') (q v F' H' s f k)⟩
theorem imp_lset {X : Cx} {G : CK} {a : E} {σ : L2.St} {H : Hp} {Q : VK} (h : rdE (X.kw G) pro (run W (.op1 .lset a)) σ H Q) :
    tCB (rLenI X) (tCons (tCB (rSetI X) (tCons (rdE (X.kw G) pro (run W a)) tNil)) tNil) σ H Q := by
  obtain ⟨A, r, F, o, _, ok, fit, hm, q⟩ := imp_op1 h
  exact ⟨A, r, F, o, _, ok, fit, hm, fun v F' H' s f k => lset_rule (q v F' H' s f k)⟩
theorem imp_isi {t : String} {a : E} {σ : L2.St} {H : Hp} {Q : VK} (h : rdE K pro (run W (.op1 (.isi t) a)) σ H Q) :
    tCB (fun xs H Q => ∃ x, xs = [x, .ty t] ∧ rD1 K (semIsi t) x H Q) (tCons (rdE K pro (run W a)) (tCons (tC (.ty t)) tNil)) σ H Q := by
  obtain ⟨A, r, F, o, _, ok, fit, hm, q⟩ := imp_op1 h
  exact ⟨A, r, F, o, _, ok, fit, hm, fun v F' H' s f k => ⟨v, rfl, q v F' H' s f k⟩⟩
theorem imp_neg {a : E} {σ : L2.St} {H : Hp} {Q : VK} (h : rdE K pro (run W (.op1 .neg a)) σ H Q) :
    tUn (rU fun i => .int (-i)) (rdE K pro (run W a)) σ H Q := by
  obtain ⟨A, r, F, o, _, ok, fit, hm, q⟩ := imp_op1 h
  refine ⟨A, r, F, o, _, ok, fit, hm, fun v F' H' s f k => ?_⟩
  obtain ⟨F1, d, o1, sm, hd, ho, q⟩ := q v F' H' s f k
  have ho : semNeg d = some o1 := ho
  unfold semNeg at ho
  split at ho
  · cases ho
    exact ⟨_, hd, q _ _ (new_int sm _)⟩
  · cases ho
theorem imp_lrg {a : E} {σ : L2.St} {H : Hp} {Q : VK} (h : rdE K pro (run W (.op1 .lrg a)) σ H Q) :
    tLstRg (tRg1 (rdE K pro (run W a))) σ H Q := by
  obtain ⟨A, r, F, o, _, ok, fit, hm, q⟩ := imp_op1 h
  refine ⟨A, r, F, o, _, ok, fit, hm, fun v F' H' s f k => ?_⟩
  obtain ⟨F1, d, o1, sm, hd, ho, q⟩ := q v F' H' s f k
  have ho : semLrg d = some o1 := ho
  cases d with
  | int n =>
    unfold semLrg at ho
    dsimp only at ho
    split at ho
    · rename_i hc
      cases ho
      have hd : v = .int n := hd
      refine ⟨n, hd, ⟨by omega, by omega, hc.1, by omega, by omega⟩, fun p hp => ?_⟩
      have e : rgV 0 n = ((List.range n.toNat).map fun k => (0 + (k : Nat) : Int)).map V.int := by
        unfold rgV
        rw [List.map_map, show n - 0 = n from by omega]
        rfl
      have e2 : ((List.range n.toNat).map fun k => Dat.int (0 + (k : Nat))) = ((List.range n.toNat).map fun k => (0 + (k : Nat) : Int)).map Dat.int := by
        rw [List.map_map]
        rfl
      rw [e]
      refine q _ _ ?_
      rw [e2]
      refine NewOk.lst sm hp ?_ (DenL.of_ints _)
      rw [List.length_map, List.length_map, List.length_range, sizeLine_eq]
      omega
    · cases ho
  | _ => cases ho
/-- slices -/
theorem imp_cut {a : E} {lo hi : Oe} {σ : L2.St} {H : Hp} {Q : VK} (h : rdE K pro (run W (.cut a lo hi)) σ H Q) :
    tSl (rCut K) (rdE K pro (run W a)) (rdO K pro (runO W lo)) (rdO K pro (runO W hi)) σ H Q := by
  obtain ⟨A, r, F, o, _, ok, fit, hm, q⟩ := h
  unfold run at hm
  obtain ⟨⟨oa, r1⟩, ha, hm⟩ := bindS hm
  obtain ⟨⟨l, r2⟩, hl, hm⟩ := bindS hm
  obtain ⟨⟨u, r3⟩, hu, hm⟩ := bindS hm
  obtain ⟨d, hd, hm⟩ := bindS hm
  obtain ⟨o3, ho, hm⟩ := bindS hm
  cases hm
  refine ⟨A, r, F, oa, _, ok, fit, ha, fun v1 F1 H1 s1 f1 k1 => ?_⟩
  obtain ⟨F1', s1', f1', h1⟩ := f1.hold k1
  refine ⟨A, r1, F1', l, _, ok, f1', hl, fun F2 H2 s2 f2 => ?_⟩
  refine ⟨A, r2, F2, u, _, ok, f2, hu, fun F3 H3 s3 f3 => ?_⟩
  have g1 := Held.seen f3 (h1.mono (s2.trans s3)) hd
  rw [ok.k] at g1
  refine ⟨F3, d, _, f3.sub, g1, ho, fun v H' nw => ?_⟩
  rw [← ok.k] at nw
  obtain ⟨F4, s4, f4, k4⟩ := f3.made nw
  exact q v F4 H' (((s1.trans s1').trans (s2.trans s3)).trans s4) f4 k4
theorem imp_no {σ : L2.St} {H : Hp} {Q : Option Int → Hp → Prop} (h : rdO K pro (runO W .no) σ H Q) : tNoPart σ H Q := by
  obtain ⟨A, r, F, o, _, ok, fit, hm, q⟩ := h
  unfold runO at hm
  cases hm
  exact q F H (Same.refl F) fit
theorem imp_yes {e : E} {σ : L2.St} {H : Hp} {Q : Option Int → Hp → Prop} (h : rdO K pro (runO W (.yes e)) σ H Q) : tPart (rdE K pro (run W e)) σ H Q := by
  obtain ⟨A, r, F, o, _, ok, fit, hm, q⟩ := h
  unfold runO at hm
  obtain ⟨⟨oa, r1⟩, ha, hm⟩ := bindS hm
  dsimp only at hm
  split at hm
  · rename_i i hi
    cases hm
    refine ⟨A, r, F, oa, _, ok, fit, ha, fun v1 F1 H1 s1 f1 k1 => ?_⟩
    obtain ⟨F1', s1', f1', h1⟩ := f1.hold k1
    have g1 := Held.seen f1' h1 hi
    exact ⟨i, g1, q F1' H1 (s1.trans s1') f1'⟩
  · cases hm
theorem imp_rev {a : E} {σ : L2.St} {H : Hp} {Q : VK} (h : rdE K pro (run W (.rev a)) σ H Q) : tRevL K (rdE K pro (run W a)) σ H Q := by
  obtain ⟨A, r, F, o, _, ok, fit, hm, q⟩ := h
  unfold run at hm
  obtain ⟨⟨oa, r1⟩, ha, hm⟩ := bindS hm
  obtain ⟨d, hd, hm⟩ := bindS hm
  obtain ⟨o3, ho, hm⟩ := bindS hm
  cases hm
  refine ⟨A, r, F, oa, _, ok, fit, ha, fun v1 F1 H1 s1 f1 k1 => ?_⟩
  obtain ⟨F1', s1', f1', h1⟩ := f1.hold k1
  have g1 := Held.seen f1' h1 hd
  unfold semRev at ho
  split at ho
  · cases ho
    obtain ⟨l, xs, rfl, hx, lx, rx⟩ := g1
    refine ⟨l, xs, rfl, by rw [← ok.k]; exact hx, fun p hp => ?_⟩
    obtain ⟨F3, s3, f3, k3⟩ := f1'.made (NewOk.lst f1'.sub hp (by rw [List.length_reverse]; exact lx) (DenL.rev rx))
    exact q _ F3 _ ((s1.trans s1').trans s3) f3 k3
  · cases ho
/-- displays -/
theorem imp_tup {es : Es} {σ : L2.St} {H : Hp} {Q : VK} (hl : ∀ r ds r', runL W es r = some (ds, r') → ds.length ≤ sizeLine) (h : rdE K pro (run W (.tup es)) σ H Q) : tTup (rdL K pro (runL W es)) σ H Q := by
  obtain ⟨A, r, F, o, _, ok, fit, hm, q⟩ := h
  unfold run at hm
  obtain ⟨⟨ds, r1⟩, ha, hm⟩ := bindS hm
  cases hm
  refine ⟨A, r, F, ds, _, ok, fit, ha, fun vs F1 H1 s1 f1 k1 => ?_⟩
  have l1 := hl _ _ _ ha
  have l2 : vs.length ≤ sizeLine := by rw [← DenL.length k1]; exact l1
  refine ⟨l2, fun p hp => ?_⟩
  obtain ⟨F3, s3, f3, k3⟩ := f1.made (NewOk.tup f1.sub hp l2 k1)
  exact q _ F3 _ (s1.trans s3) f3 k3
theorem imp_lst {es : Es} {σ : L2.St} {H : Hp} {Q : VK} (hl : ∀ r ds r', runL W es r = some (ds, r') → ds.length ≤ sizeLine) (h : rdE K pro (run W (.lst es)) σ H Q) : tLst (rdL K pro (runL W es)) σ H Q := by
  obtain ⟨A, r, F, o, _, ok, fit, hm, q⟩ := h
  unfold run at hm
  obtain ⟨⟨ds, r1⟩, ha, hm⟩ := bindS hm
  cases hm
  refine ⟨A, r, F, ds, _, ok, fit, ha, fun vs F1 H1 s1 f1 k1 => ?_⟩
  have l1 := hl _ _ _ ha
  have l2 : vs.length ≤ sizeLine := by rw [← DenL.length k1]; exact l1
  refine ⟨l2, fun p hp => ?_⟩
  obtain ⟨F3, s3, f3, k3⟩ := f1.made (NewOk.lst f1.sub hp l2 k1)
  exact q _ F3 _ (s1.trans s3) f3 k3
theorem imp_nil {σ : L2.St} {H : Hp} {Q : List V → Hp → Prop} (h : rdL K pro (runL W .nil) σ H Q) : tNil σ H Q := by
  obtain ⟨A, r, F, ds, _, ok, fit, hm, q⟩ := h
  unfold runL at hm
  cases hm
  exact q [] F H (Same.refl F) fit rfl
theorem imp_cons {e : E} {es : Es} {σ : L2.St} {H : Hp} {Q : List V → Hp → Prop} (h : rdL K pro (runL W (.cons e es)) σ H Q) : tCons (rdE K pro (run W e)) (rdL K pro (runL W es)) σ H Q := by
  obtain ⟨A, r, F, ds, _, ok, fit, hm, q⟩ := h
  unfold runL at hm
  obtain ⟨⟨oa, r1⟩, ha, hm⟩ := bindS hm
  obtain ⟨⟨d, r2⟩, hd, hm⟩ := bindS hm
  obtain ⟨⟨ds', r3⟩, he, hm⟩ := bindS hm
  cases hm
  refine ⟨A, r, F, oa, _, ok, fit, ha, fun v1 F1 H1 s1 f1 k1 => ?_⟩
  obtain ⟨F1', s1', f1', h1⟩ := f1.frz k1 hd
  refine ⟨A, r2, F1', ds', _, ok, f1', he, fun vs F2 H2 s2 f2 k2 => ?_⟩
  exact q (v1 :: vs) F2 H2 ((s1.trans s1').trans s2) f2 (DenL.cons (Den.mono s2 _ h1) k2)
/-- names and constants -/
theorem imp_var {i : Nat} {σ : L2.St} {H : Hp} {Q : VK} (h : rdE K pro (run W (.var i)) σ H Q) : tVar i σ H Q := by
  obtain ⟨A, r, F, o, _, ok, fit, hm, q⟩ := h
  unfold run at hm
  obtain ⟨s, hs, hm⟩ := bindS hm
  cases hm
  obtain ⟨v, e1, _⟩ := fit.slot i s (look_some hs)
  exact ⟨v, e1, q v F H (Same.refl F) fit e1⟩
theorem imp_c {m : Rho → Option (Out × Rho)} {d : Dat} {v : V} {σ : L2.St} {H : Hp} {Q : VK} (hm : ∀ r, m r = some (.val d, r)) (hd : ∀ K F, Den K F d v) (h : rdE K pro m σ H Q) : tC v σ H Q := by
  obtain ⟨A, r, F, o, _, ok, fit, h1, q⟩ := h
  rw [hm] at h1
  cases h1
  exact q v F H (Same.refl F) fit (hd _ _)
/-- truth -/
theorem Seen.tru {F H : Hp} (sm : Same F H) {d : Dat} {x : V} {t : Bool} (h : Seen K F H d x) (e : truthD d = some t) : TruV K x H t := by
  cases d with
  | non => rw [show x = _ from h]; cases e; exact rfl
  | bl b => rw [show x = _ from h]; cases e; exact rfl
  | int i => rw [show x = _ from h]; cases e; exact rfl
  | str z => rw [h.1]; cases e; exact ⟨h.2, rfl⟩
  | tup ds =>
    obtain ⟨a, ys, rfl, hx, lx, r'⟩ := h
    cases e
    exact .inr (.inl ⟨ys, Same.seqT sm hx, (DenL.empty r').symm⟩)
  | lst ds =>
    obtain ⟨a, ys, rfl, hx, lx, r'⟩ := h
    cases e
    exact .inl ⟨ys, hx, (DenL.empty r').symm⟩
  | dct ks vs => cases e
  | fn c ds => cases e
theorem imp_tval {e : E} {σ : L2.St} {H : Hp} {Q : Bool → Hp → Prop} (h : rdT K pro (runT W (.val e)) σ H Q) : rdE K pro (run W e) σ H fun x H' => ∃ k, TruV K x H' k ∧ Q k H' := by
  obtain ⟨A, r, F, b, _, ok, fit, hm, q⟩ := h
  unfold runT at hm
  obtain ⟨⟨oa, r1⟩, ha, hm⟩ := bindS hm
  obtain ⟨d, hd, hm⟩ := bindS hm
  obtain ⟨t, ht, hm⟩ := bindS hm
  cases hm
  refine ⟨A, r, F, oa, _, ok, fit, ha, fun v1 F1 H1 s1 f1 k1 => ?_⟩
  obtain ⟨F1', s1', f1', h1⟩ := f1.hold k1
  have g1 := Held.seen f1' h1 hd
  rw [ok.k] at g1
  exact ⟨_, Seen.tru f1'.sub g1 ht, q F1' H1 (s1.trans s1') f1'⟩
theorem imp_tcmp {k : K2} {a b : E} {σ : L2.St} {H : Hp} {Q : Bool → Hp → Prop} (h : rdT K pro (runT W (.cmp k a b)) σ H Q) :
    tTest (tOp (rD2 K (sem2 k)) (rdE K pro (run W a)) (rdE K pro (run W b))) σ H Q := by
  obtain ⟨A, r, F, t, _, ok, fit, hm, q⟩ := h
  unfold runT at hm
  obtain ⟨⟨oa, r1⟩, ha, hm⟩ := bindS hm
  obtain ⟨⟨ob, r2⟩, hb, hm⟩ := bindS hm
  obtain ⟨d, hd, hm⟩ := bindS hm
  obtain ⟨e, he, hm⟩ := bindS hm
  try dsimp only at hm
  split at hm
  · rename_i t' ho
    cases hm
    refine ⟨A, r, F, oa, _, ok, fit, ha, fun v1 F1 H1 s1 f1 k1 => ?_⟩
    obtain ⟨F1', s1', f1', h1⟩ := f1.hold k1
    refine ⟨A, r1, F1', ob, _, ok, f1', hb, fun v2 F2 H2 s2 f2 k2 => ?_⟩
    obtain ⟨F2', s2', f2', h2⟩ := f2.hold k2
    have g1 := Held.seen f2' (h1.mono (s2.trans s2')) hd
    have g2 := Held.seen f2' h2 he
    rw [ok.k] at g1 g2
    refine ⟨F2', d, e, _, f2'.sub, g1, g2, ho, fun v H' nw => ?_⟩
    rw [← ok.k] at nw
    obtain ⟨F3, s3, f3, k3⟩ := f2'.made nw
    exact ⟨t, k3, q F3 H' (((s1.trans s1').trans (s2.trans s2')).trans s3) f3⟩
  · cases hm
theorem imp_tnot {t : T} {σ : L2.St} {H : Hp} {Q : Bool → Hp → Prop} (h : rdT K pro (runT W (.not t)) σ H Q) : tNot (rdT K pro (runT W t)) σ H Q := by
  obtain ⟨A, r, F, b, _, ok, fit, hm, q⟩ := h
  unfold runT at hm
  obtain ⟨⟨c, r1⟩, ha, hm⟩ := bindS hm
  cases hm
  exact ⟨A, r, F, c, _, ok, fit, ha, q⟩
theorem imp_tand {t u : T} {σ : L2.St} {H : Hp} {Q : Bool → Hp → Prop} (h : rdT K pro (runT W (.and t u)) σ H Q) : tAnd (rdT K pro (runT W t)) (rdT K pro (runT W u)) σ H Q := by
  obtain ⟨A, r, F, b, _, ok, fit, hm, q⟩ := h
  unfold runT at hm
  obtain ⟨⟨c, r1⟩, ha, hm⟩ := bindS hm
  dsimp only at hm
  refine ⟨A, r, F, c, _, ok, fit, ha, fun F1 H1 s1 f1 => ?_⟩
  split at hm
  · rename_i hc
    rw [if_pos hc]
    exact ⟨A, r1, F1, b, _, ok, f1, hm, fun F2 H2 s2 f2 => q F2 H2 (s1.trans s2) f2⟩
  · rename_i hc
    rw [if_neg hc]
    cases hm
    exact q F1 H1 s1 f1
theorem imp_tor {t u : T} {σ : L2.St} {H : Hp} {Q : Bool → Hp → Prop} (h : rdT K pro (runT W (.or t u)) σ H Q) : tOr (rdT K pro (runT W t)) (rdT K pro (runT W u)) σ H Q := by
  obtain ⟨A, r, F, b, _, ok, fit, hm, q⟩ := h
  unfold runT at hm
  obtain ⟨⟨c, r1⟩, ha, hm⟩ := bindS hm
  dsimp only at hm
  refine ⟨A, r, F, c, _, ok, fit, ha, fun F1 H1 s1 f1 => ?_⟩
  split at hm
  · rename_i hc
    rw [if_pos hc]
    cases hm
    exact q F1 H1 s1 f1
  · rename_i hc
    rw [if_neg hc]
    exact ⟨A, r1, F1, b, _, ok, f1, hm, fun F2 H2 s2 f2 => q F2 H2 (s1.trans s2) f2⟩
theorem imp_and {a b : E} {σ : L2.St} {H : Hp} {Q : VK} (h : rdE K pro (run W (.and a b)) σ H Q) : tAndT K (rdE K pro (run W a)) (rdE K pro (run W b)) σ H Q := by
  obtain ⟨A, r, F, o, _, ok, fit, hm, q⟩ := h
  unfold run at hm
  obtain ⟨⟨oa, r1⟩, ha, hm⟩ := bindS hm
  obtain ⟨⟨d, r2⟩, hd, hm⟩ := bindS hm
  obtain ⟨t, ht, hm⟩ := bindS hm
  try dsimp only at hm
  refine ⟨A, r, F, oa, _, ok, fit, ha, fun v1 F1 H1 s1 f1 k1 => ?_⟩
  obtain ⟨F1', s1', f1', h1⟩ := f1.frz k1 hd
  have g1 := Seen.of f1'.sub h1
  rw [ok.k] at g1
  refine ⟨t, Seen.tru f1'.sub g1 ht, ?_⟩
  split at hm
  · rename_i hc
    rw [if_pos hc]
    exact ⟨A, r2, F1', o, _, ok, f1', hm, fun v F2 H2 s2 f2 k2 => q v F2 H2 ((s1.trans s1').trans s2) f2 k2⟩
  · rename_i hc
    rw [if_neg hc]
    cases hm
    exact q v1 F1' H1 (s1.trans s1') f1' h1
theorem imp_or {a b : E} {σ : L2.St} {H : Hp} {Q : VK} (h : rdE K pro (run W (.or a b)) σ H Q) : tOrT K (rdE K pro (run W a)) (rdE K pro (run W b)) σ H Q := by
  obtain ⟨A, r, F, o, _, ok, fit, hm, q⟩ := h
  unfold run at hm
  obtain ⟨⟨oa, r1⟩, ha, hm⟩ := bindS hm
  obtain ⟨⟨d, r2⟩, hd, hm⟩ := bindS hm
  obtain ⟨t, ht, hm⟩ := bindS hm
  try dsimp only at hm
  refine ⟨A, r, F, oa, _, ok, fit, ha, fun v1 F1 H1 s1 f1 k1 => ?_⟩
  obtain ⟨F1', s1', f1', h1⟩ := f1.frz k1 hd
  have g1 := Seen.of f1'.sub h1
  rw [ok.k] at g1
  refine ⟨t, Seen.tru f1'.sub g1 ht, ?_⟩
  split at hm
  · rename_i hc
    rw [if_pos hc]
    cases hm
    exact q v1 F1' H1 (s1.trans s1') f1' h1
  · rename_i hc
    rw [if_neg hc]
    exact ⟨A, r2, F1', o, _, ok, f1', hm, fun v F2 H2 s2 f2 k2 => q v F2 H2 ((s1.trans s1').trans s2) f2 k2⟩
theorem imp_not {a : E} {σ : L2.St} {H : Hp} {Q : VK} (h : rdE K pro (run W (.not a)) σ H Q) : tNotT K (rdE K pro (run W a)) σ H Q := by
  obtain ⟨A, r, F, o, _, ok, fit, hm, q⟩ := h
  unfold run at hm
  obtain ⟨⟨oa, r1⟩, ha, hm⟩ := bindS hm
  obtain ⟨d, hd, hm⟩ := bindS hm
  obtain ⟨t, ht, hm⟩ := bindS hm
  cases hm
  refine ⟨A, r, F, oa, _, ok, fit, ha, fun v1 F1 H1 s1 f1 k1 => ?_⟩
  obtain ⟨F1', s1', f1', h1⟩ := f1.hold k1
  have g1 := Held.seen f1' h1 hd
  rw [ok.k] at g1
  exact ⟨t, Seen.tru f1'.sub g1 ht, q _ F1' H1 (s1.trans s1') f1' rfl⟩
theorem imp_ite {t : T} {a b : E} {σ : L2.St} {H : Hp} {Q : VK} (h : rdE K pro (run W (.ite t a b)) σ H Q) : tIf (rdT K pro (runT W t)) (rdE K pro (run W a)) (rdE K pro (run W b)) σ H Q := by
  obtain ⟨A, r, F, o, _, ok, fit, hm, q⟩ := h
  unfold run at hm
  obtain ⟨⟨c, r1⟩, ha, hm⟩ := bindS hm
  dsimp only at hm
  refine ⟨A, r, F, c, _, ok, fit, ha, fun F1 H1 s1 f1 => ?_⟩
  split at hm
  · rename_i hc
    rw [if_pos hc]
    exact ⟨A, r1, F1, o, _, ok, f1, hm, fun v F2 H2 s2 f2 k2 => q v F2 H2 (s1.trans s2) f2 k2⟩
  · rename_i hc
    rw [if_neg hc]
    exact ⟨A, r1, F1, o, _, ok, f1, hm, fun v F2 H2 s2 f2 k2 => q v F2 H2 (s1.trans s2) f2 k2⟩
end
end Dl

/-! D5: calls, lists that change, walks, comprehensions, statements. -/
namespace Dl
open PySem PySem.Spec PyProof.Rows L2

/-! ### the promise of a def -/
def IoA (io : Option Nat) (vs : List V) (b : Addr) : Prop := ∃ i : Nat, io = some i ∧ vs[i]? = some (.ref b)
def ResOk (K : Kw) (H F' H' : Hp) : Out → V → Prop
  | .val x, v => Den K F' x v
  | .fresh x, v => ∃ a, v = .ref a ∧ F' a = none ∧ H a = none ∧ Own K F' H' a x
  | .place _, _ => False
structure ArgsOk (K : Kw) (io : Option Nat) (np : Nat) (F H : Hp) (ds : List Dat) (vs : List V) : Prop where
  sub : Same F H
  lv : vs.length = np
  ld : ds.length = np
  fz : ∀ (i : Nat) (d : Dat) (v : V), ds[i]? = some d → vs[i]? = some v → io ≠ some i → Den K F d v
  lent : ∀ (i : Nat) (d : Dat) (v : V), ds[i]? = some d → vs[i]? = some v → io = some i → ∃ a, v = .ref a ∧ F a = none ∧ Own K F H a d
  tab : TabsK K F H
structure PostOk (K : Kw) (io : Option Nat) (F H : Hp) (vs : List V) (o : Out) (d : Dat) (v : V) (F' H' : Hp) : Prop where
  ff : Same F F'
  fh : Same F' H'
  keep : ∀ b u, H b = some u → K.G.tb b = false → ¬ IoA io vs b → H' b = some u
  newf : ∀ b u, F' b = some u → F b = some u ∨ H b = none
  lent : ∀ b, IoA io vs b → F' b = none ∧ Own K F' H' b d
  res : ResOk K H F' H' o v
  tab : TabsK K F' H'
def spD (K : Kw) (io : Option Nat) (np : Nat) (phi : List Dat → Option (Out × Dat)) : Sp := fun vs H Q _ =>
  ∃ F ds o d, phi ds = some (o, d) ∧ ArgsOk K io np F H ds vs ∧ ∀ v F' H', PostOk K io F H vs o d v F' H' → Q v H'

section
variable {K : Kw} {pro : List Nat} {W : Wd}
/-! ### arguments -/
theorem imp_anil {k : Option Nat} {σ : L2.St} {H : Hp} {Q : List V → Hp → Prop} (h : rdA K pro (runA W .nil k) σ H Q) : tNil σ H Q := by
  obtain ⟨A, r, F, os, r', ok, fit, hm, q⟩ := h
  unfold runA at hm
  cases hm
  exact q [] F H (Same.refl F) fit rfl
theorem vals_of_none : ∀ (es : Es) (r : Rho) (os : List Out) (r' : Rho), runA W es none r = some (os, r') → ∀ o ∈ os, ∃ d, o = .val d
  | .nil, r, os, r', h, o, ho => by
    unfold runA at h
    cases h
    cases ho
  | .cons e es, r, os, r', h, o, ho => by
    unfold runA at h
    obtain ⟨⟨oa, r1⟩, ha, h⟩ := bindS h
    obtain ⟨⟨d, r2⟩, hd, h⟩ := bindS h
    obtain ⟨⟨os', r3⟩, he, h⟩ := bindS h
    cases h
    rcases List.mem_cons.mp ho with rfl | ho
    · exact ⟨d, rfl⟩
    · exact vals_of_none es r2 os' _ he o ho
theorem OutsOk.unguard {A : Fr} {a : Addr} {u : HO} {r : Rho} {F : Hp} {σ : L2.St} {H : Hp} : ∀ {os : List Out} {vs : List V}, (∀ o ∈ os, ∃ d, o = .val d) → OutsOk (A.guard a u) r F σ H os vs → OutsOk A r F σ H os vs
  | [], _, _, h => h
  | o :: os, _, hv, ⟨v, ws, e, h1, h2⟩ => by
    obtain ⟨d, rfl⟩ := hv o List.mem_cons_self
    exact ⟨v, ws, e, h1, OutsOk.unguard (fun o ho => hv o (List.mem_cons_of_mem _ ho)) h2⟩
theorem imp_acons_fz {e : E} {es : Es} {k : Option Nat} {k' : Option Nat} {σ : L2.St} {H : Hp} {Q : List V → Hp → Prop} (hk : (k = none ∧ k' = none) ∨ ∃ j, k = some (j + 1) ∧ k' = some j) (h : rdA K pro (runA W (.cons e es) k) σ H Q) :
    tCons (rdE K pro (run W e)) (rdA K pro (runA W es k')) σ H Q := by
  obtain ⟨A, r, F, os, r', ok, fit, hm, q⟩ := h
  have hm2 : ((run W e r).bind fun x => (frz x.2 x.1).bind fun y => (runA W es k' y.2).bind fun z => some (Out.val y.1 :: z.1, z.2)) = some (os, r') := by
    rcases hk with ⟨rfl, rfl⟩ | ⟨j, rfl, rfl⟩
    · unfold runA at hm
      exact hm
    · unfold runA at hm
      exact hm
  obtain ⟨⟨oa, r1⟩, ha, hm2⟩ := bindS hm2
  obtain ⟨⟨d, r2⟩, hd, hm2⟩ := bindS hm2
  obtain ⟨⟨os', r3⟩, he, hm2⟩ := bindS hm2
  cases hm2
  refine ⟨A, r, F, oa, r1, ok, fit, ha, fun v1 F1 H1 s1 f1 k1 => ?_⟩
  obtain ⟨F1', s1', f1', h1⟩ := f1.frz k1 hd
  refine ⟨A, r2, F1', os', _, ok, f1', he, fun vs F2 H2 s2 f2 k2 => ?_⟩
  exact q (v1 :: vs) F2 H2 ((s1.trans s1').trans s2) f2 ⟨v1, vs, rfl, Den.mono s2 _ h1, k2⟩
theorem imp_acons_io {e : E} {es : Es} {σ : L2.St} {H : Hp} {Q : List V → Hp → Prop} (h : rdA K pro (runA W (.cons e es) (some 0)) σ H Q) :
    tCons (rdE K pro (run W e)) (rdA K pro (runA W es none)) σ H Q := by
  obtain ⟨A, r, F, os, r', ok, fit, hm, q⟩ := h
  unfold runA at hm
  obtain ⟨⟨oa, r1⟩, ha, hm⟩ := bindS hm
  obtain ⟨ol, hl, hm⟩ := bindS hm
  obtain ⟨⟨os', r3⟩, he, hm⟩ := bindS hm
  cases hm
  refine ⟨A, r, F, oa, r1, ok, fit, ha, fun v1 F1 H1 s1 f1 k1 => ?_⟩
  cases oa with
  | val d => cases hl
  | fresh d =>
    cases hl
    obtain ⟨a, rfl, g1, g2, g3, g4, g5⟩ := k1
    obtain ⟨u, hu⟩ := Own.there g4
    have gf := f1.guard (o := u) hu (by obtain ⟨u', hu', nt⟩ := Own.nt g4; rw [hu] at hu'; cases hu'; exact nt) g1 g3 g5
    refine ⟨A.guard a u, r1, F1, os', _, ok.guard a u, gf, he, fun vs F2 H2 s2 f2 k2 => ?_⟩
    obtain ⟨f2', u1, u2, u3⟩ := f2.unguard g2 (f1.f0.free g1) g3
    refine q (.ref a :: vs) F2 H2 (s1.trans s2) f2' ⟨_, vs, rfl, ⟨a, rfl, u2, g2, g3, Own.stay s2 (fun o ho => ?_) g4, u3⟩, OutsOk.unguard (vals_of_none es r1 os' _ he) k2⟩
    rw [hu] at ho
    cases ho
    exact u1
  | place i =>
    have el : ol = .place i := by
      have hl : (match look r1 i with
        | some ⟨_, .fz⟩ => none
        | some _ => some (Out.place i)
        | none => none) = some ol := hl
      split at hl
      · cases hl
      · cases hl; rfl
      · cases hl
    subst el
    refine ⟨A, r1, F1, os', _, ok, f1, he, fun vs F2 H2 s2 f2 k2 => ?_⟩
    exact q (v1 :: vs) F2 H2 (s1.trans s2) f2 ⟨v1, vs, rfl, k1, k2⟩
theorem OutsOk.get {A : Fr} {r : Rho} {F : Hp} {σ : L2.St} {H : Hp} : ∀ {os : List Out} {vs : List V} {i : Nat} {v : V}, OutsOk A r F σ H os vs → vs[i]? = some v → ∃ o, os[i]? = some o ∧ OutOk A r F σ H o v
  | [], _, i, v, h, e => by
    have h : _ = [] := h
    subst h
    cases e
  | o :: os, _, 0, v, ⟨w, ws, e, h1, h2⟩, g => by
    subst e
    cases g
    exact ⟨o, rfl, h1⟩
  | o :: os, _, i + 1, v, ⟨w, ws, e, h1, h2⟩, g => by
    subst e
    exact OutsOk.get (i := i) h2 g
theorem OutsOk.len {A : Fr} {r : Rho} {F : Hp} {σ : L2.St} {H : Hp} : ∀ {os : List Out} {vs : List V}, OutsOk A r F σ H os vs → os.length = vs.length
  | [], _, h => by
    have h : _ = [] := h
    subst h
    rfl
  | o :: os, _, ⟨w, ws, e, h1, h2⟩ => by
    subst e
    rw [List.length_cons, List.length_cons, OutsOk.len h2]
theorem resAll_get {r : Rho} : ∀ {os : List Out} {ds : List Dat} {i : Nat} {d : Dat}, resAll r os = some ds → ds[i]? = some d → ∃ o, os[i]? = some o ∧ res r o = some d
  | [], ds, i, d, h, e => by cases h; cases e
  | o :: os, ds, i, d, h, e => by
    unfold resAll at h
    obtain ⟨x, hx, h⟩ := bindS h
    obtain ⟨xs, hxs, h⟩ := bindS h
    cases h
    cases i with
    | zero => cases e; exact ⟨o, rfl, hx⟩
    | succ i => exact resAll_get (i := i) hxs e
theorem resAll_len {r : Rho} : ∀ {os : List Out} {ds : List Dat}, resAll r os = some ds → ds.length = os.length
  | [], ds, h => by cases h; rfl
  | o :: os, ds, h => by
    unfold resAll at h
    obtain ⟨x, hx, h⟩ := bindS h
    obtain ⟨xs, hxs, h⟩ := bindS h
    cases h
    rw [List.length_cons, List.length_cons, resAll_len hxs]
/-- which arguments are lent -/
theorem runA_kind : ∀ (es : Es) (k : Option Nat) (r : Rho) (os : List Out) (r' : Rho), runA W es k r = some (os, r') → ∀ (i : Nat) (o : Out), os[i]? = some o → k ≠ some i → ∃ d, o = .val d
  | .nil, k, r, os, r', h, i, o, ho, hk => by
    unfold runA at h
    cases h
    cases ho
  | .cons e es, none, r, os, r', h, i, o, ho, hk => vals_of_none _ r os r' h o (List.mem_of_getElem? ho)
  | .cons e es, some 0, r, os, r', h, i, o, ho, hk => by
    unfold runA at h
    obtain ⟨⟨oa, r1⟩, ha, h⟩ := bindS h
    obtain ⟨ol, hl, h⟩ := bindS h
    obtain ⟨⟨os', r3⟩, he, h⟩ := bindS h
    cases h
    cases i with
    | zero => exact absurd rfl hk
    | succ i => exact vals_of_none es r1 os' _ he o (List.mem_of_getElem? (i := i) ho)
  | .cons e es, some (k + 1), r, os, r', h, i, o, ho, hk => by
    unfold runA at h
    obtain ⟨⟨oa, r1⟩, ha, h⟩ := bindS h
    obtain ⟨⟨d, r2⟩, hd, h⟩ := bindS h
    obtain ⟨⟨os', r3⟩, he, h⟩ := bindS h
    cases h
    cases i with
    | zero => cases ho; exact ⟨d, rfl⟩
    | succ i => exact runA_kind es (some k) r2 os' _ he i o ho fun z => hk (by cases z; rfl)

/-- one object, that no slot owns, has changed; others are new -/
theorem Fit.changed {A : Fr} {r : Rho} {F F' H H' : Hp} {σ : L2.St} (h : Fit A r F σ H) {a : Addr} (ff : Same F F') (fh : Same F' H') (keep : ∀ b u, H b = some u → b ≠ a → A.K.G.tb b = false → H' b = some u)
    (newf : ∀ b u, F' b = some u → F b = some u ∨ H b = none) (tb : TabsK A.K F' H') (ha : ∃ o, H' a = some o) (hex : A.H0 a = none ∨ A.io a) (nm : ¬ Mine r σ a) : Fit A r F' σ H' := by
  have off : ∀ b o, A.H0 b = some o → A.K.G.tb b = false := fun b o e => by
    cases z : A.K.G.tb b with
    | false => rfl
    | true => rw [(h.tbo b z).1] at e; cases e
  have ofi : ∀ b, A.io b → A.K.G.tb b = false := fun b e => by
    cases z : A.K.G.tb b with
    | false => rfl
    | true => exact absurd e (h.tbo b z).2
  refine ⟨fh, fun b o e x => keep b o (h.keep b o e x) (fun z => ?_) (off b o e), fun b o e => ?_, h.f0.trans ff, fun b x => ?_, fun i s e => ?_, h.sep, h.pro, h.len, tb, h.tbo⟩
  · subst z
    rcases hex with z | z
    · rw [e] at z; cases z
    · exact x z
  · rcases newf b o e with z | z
    · exact h.newf b o z
    · exact .inr (h.free z).1
  · by_cases hb : b = a
    · subst hb
      exact ha
    · obtain ⟨o, q⟩ := h.ioh b x
      exact ⟨o, keep b o q hb (ofi b x)⟩
  · obtain ⟨v, e2, q⟩ := h.slot i s e
    refine ⟨v, e2, q.stay ff (fun b eb em fb => ?_) fun b eb em o ho => keep b o ho (fun z => nm ⟨i, s, e, em, by rw [e2, eb, z]⟩) (by subst eb; obtain ⟨u', hu', nt⟩ := Own.nt (q.mine em).2.2; exact h.tab.off hu' nt)⟩
    subst eb
    obtain ⟨o, ho⟩ := Own.there (q.mine em).2.2
    cases qf : F' b with
    | none => rfl
    | some u =>
      rcases newf b u qf with z | z
      · rw [fb] at z; cases z
      · rw [ho] at z; cases z
/-- a slot is known again -/
theorem Fit.regain {A : Fr} {r : Rho} {F H : Hp} {σ : L2.St} {j : Nat} {s : Sl} {v : V} (h : Fit A (r.set j none) F σ H) (ev : σ[j]? = some (some v)) (q : SlotOk A F H s v) (nm : s.m ≠ .fz → ∀ a, v = .ref a → ¬ Mine (r.set j none) σ a) : Fit A (r.set j (some s)) F σ H := by
  have get : ∀ {i : Nat} {t : Sl}, (r.set j (some s))[i]? = some (some t) → (i = j ∧ t = s) ∨ (i ≠ j ∧ (r.set j none)[i]? = some (some t)) := fun {i t} e => by
    rcases set_get e with ⟨rfl, z⟩ | ⟨n, z⟩
    · exact .inl ⟨rfl, (Option.some.inj z).symm⟩
    · exact .inr ⟨n, by rw [List.getElem?_set_ne (Ne.symm n)]; exact z⟩
  refine ⟨h.sub, h.keep, h.newf, h.f0, h.ioh, fun i t e => ?_, fun i k t u b n e1 m1 e2 m2 s1 s2 => ?_, h.pro, by have := h.len; rw [List.length_set] at this ⊢; exact this, h.tab, h.tbo⟩
  · rcases get e with ⟨rfl, rfl⟩ | ⟨n, z⟩
    · exact ⟨v, ev, q⟩
    · exact h.slot i t z
  · rcases get e1 with ⟨rfl, rfl⟩ | ⟨n1, z1⟩
    · rcases get e2 with ⟨rfl, _⟩ | ⟨n2, z2⟩
      · exact n rfl
      · rw [ev] at s1
        exact nm m1 b (Option.some.inj (Option.some.inj s1)) ⟨k, u, z2, m2, s2⟩
    · rcases get e2 with ⟨rfl, rfl⟩ | ⟨n2, z2⟩
      · rw [ev] at s2
        exact nm m2 b (Option.some.inj (Option.some.inj s2)) ⟨i, t, z1, m1, s1⟩
      · exact h.sep i k t u b n z1 m1 z2 m2 s1 s2
theorem Fit.alone {A : Fr} {r : Rho} {F H : Hp} {σ : L2.St} (h : Fit A r F σ H) {j : Nat} {s : Sl} {a : Addr} (e : r[j]? = some (some s)) (em : s.m ≠ .fz) (ev : σ[j]? = some (some (.ref a))) : ¬ Mine (r.set j none) σ a := fun m => by
  obtain ⟨i, t, e1, m1, e3⟩ := m
  rcases set_get e1 with ⟨_, z⟩ | ⟨n, z⟩
  · cases z
  · exact h.sep i j t s a n z m1 e em e3 ev
/-- what comes back from a call -/
theorem back_res {A : Fr} {r r' : Rho} {F H F' H' : Hp} {σ : L2.St} {o : Out} {v : V} (h : Fit A r F σ H) (q : ResOk A.K H F' H' o v) (sub : ∀ a, Mine r' σ a → Mine r σ a) : OutOk A r' F' σ H' o v := by
  cases o with
  | val x => exact q
  | fresh x =>
    obtain ⟨a, e1, e2, e3, e4⟩ := q
    refine ⟨a, e1, e2, (h.free e3).1, (h.free e3).2, e4, fun m => ?_⟩
    obtain ⟨_, _, u, z⟩ := h.mine (sub a m)
    rw [e3] at z
    cases z
  | place i => exact q.elim

/-- a call of a def -/
theorem imp_call {f : Str} {es : Es} {io : Option Nat} {np : Nat} {σ : L2.St} {H : Hp} {Q : VK} (hio : W.io f = some io) (hnp : ∀ ds x, W.phi f ds = some x → ds.length = np)
    (h : rdE K pro (run W (.call f es)) σ H Q) : tCall (spD K io np (W.phi f)) [] E0 (rdA K pro (runA W es io)) σ H Q := by
  obtain ⟨A, r, F, o, r', ok, fit, hm, q⟩ := h
  unfold run at hm
  obtain ⟨io', hi, hm⟩ := bindS hm
  rw [hio] at hi
  cases hi
  obtain ⟨⟨os, r1⟩, ha, hm⟩ := bindS hm
  obtain ⟨ds, hd, hm⟩ := bindS hm
  obtain ⟨⟨o2, d⟩, hp, hm⟩ := bindS hm
  obtain ⟨r2, hg, hm⟩ := bindS hm
  cases hm
  refine ⟨A, r, F, os, r1, ok, fit, ha, fun vs F1 H1 s1 f1 k1 => ?_⟩
  show spD K io np (W.phi f) (vs ++ []) H1 Q E0
  rw [List.append_nil, ← ok.k]
  have hl := hnp ds _ hp
  have lo : os.length = vs.length := OutsOk.len k1
  have ld : ds.length = os.length := resAll_len hd
  have settled : ∀ (i : Nat) (x : Dat) (v : V), ds[i]? = some x → vs[i]? = some v → io ≠ some i → Den A.K F1 x v := fun i x v hx hv hi => by
    obtain ⟨oi, h1, h2⟩ := OutsOk.get k1 hv
    obtain ⟨oi', h3, h4⟩ := resAll_get hd hx
    rw [h1] at h3
    cases h3
    obtain ⟨y, rfl⟩ := runA_kind es io r os r1 ha i oi h1 hi
    cases h4
    exact h2
  cases io with
  | none =>
    refine ⟨F1, ds, o, d, hp, ⟨f1.sub, by omega, hl, settled, (fun _ _ _ _ _ z => nomatch z), f1.tab⟩, fun v F' H' po => ?_⟩
    cases hg
    have nio : ∀ b, ¬ IoA none vs b := fun b z => by obtain ⟨i, e, _⟩ := z; cases e
    have nw : New A.K F1 H1 F' H' := ⟨po.ff, po.fh, fun b u e nt => po.keep b u e nt (nio b), po.newf, fun _ => po.tab⟩
    exact q v F' H' (s1.trans po.ff) (f1.grow nw) (back_res f1 po.res fun _ m => m)
  | some k =>
    have hg : (match os[k]? with
      | some (.place i) => match look r1 i with
        | some ⟨_, .own⟩ => some (r1.set i (some ⟨d, .own⟩))
        | some ⟨_, .io⟩ => some (r1.set i (some ⟨d, .io⟩))
        | _ => none
      | some (.fresh _) => some r1
      | _ => none) = some r' := hg
    -- the lent one
    have key : ∃ (a : Addr) (x : Dat), vs[k]? = some (.ref a) ∧ ds[k]? = some x ∧ F1 a = none ∧ Own A.K F1 H1 a x ∧
        ∀ v F' H', PostOk A.K (some k) F1 H1 vs o d v F' H' → Fit A r' F' σ H' ∧ (∀ b, Mine r' σ b → Mine r1 σ b) := by
      cases hok : os[k]? with
      | none => rw [hok] at hg; cases hg
      | some ok' =>
        rw [hok] at hg
        have hk : k < os.length := (List.getElem?_eq_some_iff.mp hok).1
        have hkv : k < vs.length := by omega
        have hkd : k < ds.length := by omega
        obtain ⟨oi, g1, g2⟩ := OutsOk.get k1 (List.getElem?_eq_getElem hkv)
        obtain ⟨oi', g3, g4⟩ := resAll_get hd (List.getElem?_eq_getElem hkd)
        rw [hok] at g1 g3
        cases g1
        cases g3
        cases ok' with
        | val x => cases hg
        | fresh x =>
          cases hg
          obtain ⟨a, e1, e2, e3, e4, e5, e6⟩ := g2
          have hx : x = ds[k] := Option.some.inj g4
          subst hx
          refine ⟨a, _, by rw [List.getElem?_eq_getElem hkv, e1], List.getElem?_eq_getElem hkd, e2, e5, fun v F' H' po => ⟨?_, fun _ m => m⟩⟩
          have ia : IoA (some k) vs a := ⟨k, rfl, by rw [List.getElem?_eq_getElem hkv, e1]⟩
          refine f1.changed po.ff po.fh (fun b u hb nb nt => po.keep b u hb nt fun z => ?_) po.newf po.tab (Own.there (po.lent a ia).2) (.inl e3) e6
          obtain ⟨i, ei, z⟩ := z
          cases ei
          rw [List.getElem?_eq_getElem hkv, e1] at z
          cases z
          exact nb rfl
        | place j =>
          have g4 : (look r1 j).map (·.d) = some ds[k] := g4
          cases hj : look r1 j with
          | none => rw [hj] at g4; cases g4
          | some s =>
            rw [hj] at g4
            have hsd : s.d = ds[k] := Option.some.inj g4
            have hjs := look_some hj
            have hg2 : s.m ≠ .fz ∧ r' = r1.set j (some ⟨d, s.m⟩) := by
              obtain ⟨sd, sm⟩ := s
              dsimp only at hg
              rw [hj] at hg
              cases sm with
              | fz => cases hg
              | own => cases hg; exact ⟨(fun z => nomatch z), rfl⟩
              | io => cases hg; exact ⟨(fun z => nomatch z), rfl⟩
            obtain ⟨hz, rfl⟩ := hg2
            obtain ⟨w, w1, w2⟩ := f1.slot j s hjs
            rw [show σ[j]? = some (some vs[k]) from g2] at w1
            cases w1
            obtain ⟨a, ea⟩ := w2.ref hz
            have g2 : σ[j]? = some (some vs[k]) := g2
            rw [ea] at w2 g2
            obtain ⟨m1, m2, m3⟩ := w2.mine hz
            have ia : IoA (some k) vs a := ⟨k, rfl, by rw [List.getElem?_eq_getElem hkv, ea]⟩
            refine ⟨a, ds[k], by rw [List.getElem?_eq_getElem hkv, ea], List.getElem?_eq_getElem hkd, m1, by rw [← hsd]; exact m3, fun v F' H' po => ⟨?_, fun b mb => ?_⟩⟩
            · have al := f1.alone hjs hz g2
              have fg := (f1.forget j).changed (a := a) po.ff po.fh (fun b u hb nb nt => po.keep b u hb nt fun z => by
                obtain ⟨i, ei, z⟩ := z
                cases ei
                rw [List.getElem?_eq_getElem hkv, ea] at z
                cases z
                exact nb rfl) po.newf po.tab (Own.there (po.lent a ia).2) (m2.elim (fun z => .inl z.1) .inr) al
              refine fg.regain g2 ?_ fun _ b eb => by cases eb; exact al
              obtain ⟨l1, l2⟩ := po.lent a ia
              unfold SlotOk at w2 ⊢
              show (match s.m with | .fz => _ | .own => _ | .io => _)
              cases hsm : s.m with
              | fz => exact absurd hsm hz
              | own =>
                rw [hsm] at w2
                obtain ⟨b, eb, _, b2, b3, _⟩ := w2
                cases eb
                exact ⟨a, rfl, l1, b2, b3, l2⟩
              | io =>
                rw [hsm] at w2
                obtain ⟨b, eb, _, b2, _⟩ := w2
                cases eb
                exact ⟨a, rfl, l1, b2, l2⟩
            · obtain ⟨i, t, e1, e2, e3⟩ := mb
              rcases set_get e1 with ⟨rfl, z⟩ | ⟨n, z⟩
              · exact ⟨i, s, hjs, hz, e3⟩
              · exact ⟨i, t, z, e2, e3⟩
    obtain ⟨a, x, c1, c2, c3, c4, c5⟩ := key
    refine ⟨F1, ds, o, d, hp, ⟨f1.sub, by omega, hl, settled, fun i y v hy hv hi => ?_, f1.tab⟩, fun v F' H' po => ?_⟩
    · cases hi
      rw [c1] at hv
      cases hv
      rw [c2] at hy
      cases hy
      exact ⟨a, rfl, c3, c4⟩
    · obtain ⟨g1, g2⟩ := c5 v F' H' po
      exact q v F' H' (s1.trans po.ff) g1 (back_res f1 po.res g2)
/-! ### a call that only looks at what it is given, and gives something flat -/
def HeldL (K : Kw) (F : Hp) (σ : L2.St) : List Out → List V → Prop
  | [], vs => vs = []
  | o :: os, vs => ∃ v ws, vs = v :: ws ∧ Held K F σ o v ∧ HeldL K F σ os ws
def rdH (K : Kw) (pro : List Nat) (m : Rho → Option (List Out × Rho)) : TA := fun σ H Q => ∃ A r F os r', Ok K pro A ∧ Fit A r F σ H ∧ m r = some (os, r') ∧ ∀ vs F' H', Same F F' → Fit A r' F' σ H' → HeldL A.K F' σ os vs → Q vs H'
theorem imp_hnil {σ : L2.St} {H : Hp} {Q : List V → Hp → Prop} (h : rdH K pro (runP W .nil) σ H Q) : tNil σ H Q := by
  obtain ⟨A, r, F, os, r', ok, fit, hm, q⟩ := h
  unfold runP at hm
  cases hm
  exact q [] F H (Same.refl F) fit rfl
theorem imp_hcons {e : E} {es : Es} {σ : L2.St} {H : Hp} {Q : List V → Hp → Prop} (h : rdH K pro (runP W (.cons e es)) σ H Q) : tCons (rdE K pro (run W e)) (rdH K pro (runP W es)) σ H Q := by
  obtain ⟨A, r, F, os, r', ok, fit, hm, q⟩ := h
  unfold runP at hm
  obtain ⟨⟨o, r1⟩, ha, hm⟩ := bindS hm
  obtain ⟨⟨os', r2⟩, hb, hm⟩ := bindS hm
  cases hm
  refine ⟨A, r, F, o, r1, ok, fit, ha, fun v F1 H1 s1 f1 k1 => ?_⟩
  obtain ⟨F1', s1', f1', h1⟩ := f1.hold k1
  exact ⟨A, r1, F1', os', _, ok, f1', hb, fun vs F2 H2 s2 f2 k2 => q (v :: vs) F2 H2 ((s1.trans s1').trans s2) f2 ⟨v, vs, rfl, h1.mono s2, k2⟩⟩
theorem settle_o {G H : Hp} (s : Same G H) {a : Addr} {u : HO} (ha : H a = some u) : Same G (upd G a u) ∧ Same (upd G a u) H := by
  refine ⟨fun b o e => ?_, fun b o e => ?_⟩
  · by_cases hb : b = a
    · subst hb
      rw [s b o e] at ha
      cases ha
      rw [upd_same]
    · rw [upd_ne hb]
      exact e
  · by_cases hb : b = a
    · subst hb
      rw [upd_same] at e
      cases e
      exact ha
    · rw [upd_ne hb] at e
      exact s b o e
/-- lists and dicts -/
def OwnO (o : HO) : Prop := (∃ xs, o = .lst xs) ∨ (∃ ps, o = .dK ps) ∨ ∃ w a ps, o = DN w a ps
theorem ownO_tbl {ps : Array Value} : ¬ OwnO (.tbl ps) := by
  rintro (⟨_, z⟩ | ⟨_, z⟩ | ⟨_, _, _, z⟩) <;> cases z
theorem ownO_code {c : Addr} {q : Str} : ¬ OwnO (LamX.CodeO c q) := by
  rintro (⟨_, z⟩ | ⟨_, z⟩ | ⟨w, a, ps, z⟩)
  · cases z
  · cases z
  · let ob : Obj := { cls := .none, data := .fields #[.none, .str q 0] }
    let h : Heap := { objs := Array.replicate (max a c + 1) ob }
    have g : ∀ b, b ≤ max a c → h.get? b = some ob := fun b hb => by
      have e : h.objs[b]? = some ob := by
        show (Array.replicate (max a c + 1) ob)[b]? = some ob
        rw [Array.getElem?_replicate, if_pos (Nat.lt_succ_of_le hb)]
      unfold Heap.get?
      rw [e]
    have hc : (fun h : Heap => ∃ (oc : Obj) (vs : Array Value) (t : Tok), h.get? c = some oc ∧ oc.data = .fields vs ∧ vs[1]? = some (.str q t)) h := ⟨ob, _, 0, g c (Nat.le_max_right a c), rfl, rfl⟩
    unfold LamX.CodeO DN at z
    injection z with z
    rw [z] at hc
    obtain ⟨_, _, xs, _, o, es, ep, h1, _, h3, _⟩ := hc
    rw [g a (Nat.le_max_left a c)] at h1
    cases h1
    cases h3
theorem TabsK.more {K : Kw} {F G H : Hp} (t : TabsK K F H) (f : Same F G) (s : Same G H) (go : ∀ b o, G b = some o → F b = some o ∨ OwnO o) : TabsK K G H := fun P hP => by
  obtain ⟨h1, ps, h2, h3, h4⟩ := t P hP
  refine ⟨?_, ps, h2, h3, fun pos cv hc => ?_⟩
  · cases z : G P with
    | none => rfl
    | some o =>
      rcases go P o z with y | y
      · rw [h1] at y; cases y
      · have := s P o z
        rw [h2] at this
        cases this
        exact (ownO_tbl y).elim
  · obtain ⟨c, e1, e2⟩ := h4 pos cv hc
    exact ⟨c, e1, f _ _ e2⟩
/-- what is new, without what was settled for a while -/
theorem New.thin {K : Kw} {F G H F' H' : Hp} (sm : Same F H) (g1 : Same F G) (go : ∀ b o, G b = some o → F b = some o ∨ OwnO o) (ff : Same G F') (fh : Same F' H') (hh : ∀ b o, H b = some o → K.G.tb b = false → H' b = some o)
    (nf : ∀ b o, F' b = some o → G b = some o ∨ H b = none) (tb : TabsK K F' H') : ∃ F'', New K F H F'' H' ∧ Same F'' F' := by
  let F2 : Hp := fun b => match F b with | some o => some o | none => match H b with | none => F' b | some _ => none
  have e1 : ∀ {b o}, F b = some o → F2 b = some o := fun {b o} e => by simp only [F2, e]
  have e2 : ∀ {b}, F b = none → H b = none → F2 b = F' b := fun {b} e h => by simp only [F2, e, h]
  have e3 : ∀ {b o}, F2 b = some o → F b = some o ∨ (H b = none ∧ F' b = some o) := fun {b o} e => by
    simp only [F2] at e
    cases h : F b with
    | some u => rw [h] at e; exact .inl e
    | none =>
      rw [h] at e
      cases h2 : H b with
      | none => rw [h2] at e; exact .inr ⟨rfl, e⟩
      | some u => rw [h2] at e; cases e
  refine ⟨F2, ⟨fun b o e => e1 e, fun b o e => ?_, hh, fun b o e => ?_, fun _ P hP => ?_⟩, fun b o e => (e3 e).elim (fun z => ff _ _ (g1 _ _ z)) (·.2)⟩
  · rcases e3 e with z | z
    · exact fh _ _ (ff _ _ (g1 _ _ z))
    · exact fh _ _ z.2
  · rcases e3 e with z | z
    · exact .inl z
    · exact .inr z.1
  · obtain ⟨h1, ps, h2, h3, h4⟩ := tb P hP
    refine ⟨?_, ps, h2, h3, fun pos cv hc => ?_⟩
    · cases z : F2 P with
      | none => rfl
      | some o =>
        rcases e3 z with y | y
        · rw [ff _ _ (g1 _ _ y)] at h1; cases h1
        · rw [y.2] at h1; cases h1
    · obtain ⟨c, k1, k2⟩ := h4 pos cv hc
      refine ⟨c, k1, ?_⟩
      rcases nf _ _ k2 with y | y
      · rcases go _ _ y with y | y
        · exact e1 y
        · exact (ownO_code y).elim
      · rw [e2 (sm.free y) y]
        exact k2
/-- what is one's own, settled for a while -/
theorem settle_in {K : Kw} {F G H : Hp} (f : Same F G) (s : Same G H) {a : Addr} {d : Dat} (h : Own K F H a d) : ∃ G', Same G G' ∧ Same G' H ∧ Den K G' d (.ref a) ∧ ∀ b o, G' b = some o → G b = some o ∨ OwnO o := by
  have go : ∀ u, OwnO u → ∀ b o, upd G a u b = some o → G b = some o ∨ OwnO o := fun u hu b o e => by
    by_cases hb : b = a
    · subst hb
      rw [upd_same] at e
      cases e
      exact .inr hu
    · rw [upd_ne hb] at e
      exact .inl e
  cases d with
  | lst ds =>
    obtain ⟨xs, e, l, q⟩ := h
    obtain ⟨s1, s2⟩ := settle_o s e
    exact ⟨_, s1, s2, ⟨a, xs, rfl, SqL.of upd_same, l, DenL.mono (f.trans s1) ds q⟩, go _ (.inl ⟨_, rfl⟩)⟩
  | dct ks vs =>
    obtain ⟨u, ws, zs, e, l, q1, q2⟩ := h
    obtain ⟨s1, s2⟩ := settle_o s e
    refine ⟨_, s1, s2, ⟨a, u, ws, zs, rfl, upd_same, l, DenL.mono (f.trans s1) ks q1, DenL.mono (f.trans s1) vs q2⟩, go _ ?_⟩
    rcases l.2 with ⟨ps, z, _⟩ | ⟨ps, z, _⟩
    · exact .inr (.inl ⟨ps, z⟩)
    · exact .inr (.inr ⟨_, _, ps, z⟩)
  | _ => exact h.elim
theorem settle_all {A : Fr} {r : Rho} {F H : Hp} {σ : L2.St} (fit : Fit A r F σ H) : ∀ {os : List Out} {vs : List V} {ds : List Dat}, HeldL A.K F σ os vs → resAll r os = some ds → ∃ G, Same F G ∧ Same G H ∧ DenL A.K G ds vs ∧ ∀ b o, G b = some o → F b = some o ∨ OwnO o
  | [], vs, ds, h, e => by
    cases e
    exact ⟨F, Same.refl F, fit.sub, h, fun _ _ e => .inl e⟩
  | o :: os, vs, ds, ⟨v, ws, e0, h1, h2⟩, e => by
    subst e0
    unfold resAll at e
    obtain ⟨d, hd, e⟩ := bindS e
    obtain ⟨ds', hds, e⟩ := bindS e
    cases e
    obtain ⟨G, s1, s2, q, go⟩ := settle_all fit h2 hds
    cases o with
    | val x =>
      cases hd
      exact ⟨G, s1, s2, ⟨v, ws, rfl, Den.mono s1 _ h1, q⟩, go⟩
    | fresh x =>
      cases hd
      exact ⟨G, s1, s2, ⟨v, ws, rfl, Den.mono s1 _ h1, q⟩, go⟩
    | place j =>
      have hd : (look r j).map (·.d) = some d := hd
      cases hj : look r j with
      | none => rw [hj] at hd; cases hd
      | some t =>
        rw [hj] at hd
        cases hd
        have hjs := look_some hj
        obtain ⟨u, e1, e2⟩ := fit.slot j t hjs
        rw [show σ[j]? = some (some v) from h1] at e1
        cases e1
        by_cases hz : t.m = .fz
        · unfold SlotOk at e2
          rw [hz] at e2
          exact ⟨G, s1, s2, ⟨v, ws, rfl, Den.mono s1 _ e2, q⟩, go⟩
        · obtain ⟨a, rfl⟩ := e2.ref hz
          obtain ⟨_, _, m3⟩ := e2.mine hz
          obtain ⟨G', t1, t2, t3, t4⟩ := settle_in s1 s2 m3
          exact ⟨G', s1.trans t1, t2, ⟨_, ws, rfl, t3, DenL.mono t1 _ q⟩, fun b o e => (t4 b o e).elim (go b o) .inr⟩
theorem flat_den {K : Kw} {F G : Hp} {d : Dat} {v : V} (f : flatD d = true) (h : Den K F d v) : Den K G d v := by
  cases d with
  | tup ds => cases f
  | lst ds => cases f
  | dct ks vs => cases f
  | fn c ds => cases f
  | _ => exact h
theorem imp_callB {f : Str} {es : Es} {np : Nat} {σ : L2.St} {H : Hp} {Q : VK} (hio : W.io f = some none) (hnp : ∀ ds x, W.phi f ds = some x → ds.length = np)
    (h : rdE K pro (run W (.callB f es)) σ H Q) : tCall (spD K none np (W.phi f)) [] E0 (rdH K pro (runP W es)) σ H Q := by
  obtain ⟨A, r, F, o, r', ok, fit, hm, q⟩ := h
  unfold run at hm
  obtain ⟨io', hi, hm⟩ := bindS hm
  rw [hio] at hi
  cases hi
  rw [if_pos rfl] at hm
  obtain ⟨⟨os, r1⟩, ha, hm⟩ := bindS hm
  obtain ⟨ds, hd, hm⟩ := bindS hm
  obtain ⟨⟨o2, d⟩, hp, hm⟩ := bindS hm
  dsimp only at hm
  split at hm
  · rename_i x
    split at hm
    · rename_i fl
      cases hm
      refine ⟨A, r, F, os, r', ok, fit, ha, fun vs F1 H1 s1 f1 k1 => ?_⟩
      show spD K none np (W.phi f) (vs ++ []) H1 Q E0
      rw [List.append_nil, ← ok.k]
      obtain ⟨G, g1, g2, g3, g4⟩ := settle_all f1 k1 hd
      have hl := hnp ds _ hp
      refine ⟨G, ds, _, d, hp, ⟨g2, by rw [← DenL.length g3]; exact hl, hl, fun i x v hx hv _ => ?_, (fun _ _ _ _ _ z => nomatch z), f1.tab.more g1 g2 g4⟩, fun v F' H' po => ?_⟩
      · obtain ⟨y, hy, dy⟩ := DenL.getD g3 hx
        rw [hv] at hy
        cases hy
        exact dy
      · have nio : ∀ b, ¬ IoA none vs b := fun b z => by obtain ⟨i, e, _⟩ := z; cases e
        obtain ⟨F2, nw, sw⟩ := New.thin (K := A.K) f1.sub g1 g4 po.ff po.fh (fun b u e nt => po.keep b u e nt (nio b)) po.newf po.tab
        exact q v F2 H' (s1.trans nw.ff) (f1.grow nw) (flat_den fl po.res)
    · cases hm
  · cases hm
end
end Dl

/-! D6: lists that change, walks, comprehensions, loops, statements. -/
namespace Dl
open PySem PySem.Spec PyProof.Rows L2
section
variable {K : Kw} {pro : List Nat} {W : Wd}

theorem lst_of {d : Dat} (h : isLst d = true) : ∃ ds, d = .lst ds := by
  cases d with
  | lst ds => exact ⟨ds, rfl⟩
  | _ => exact absurd (show false = true from h) Bool.false_ne_true
theorem Fit.tyL {A : Fr} {r : Rho} {F H : Hp} {σ : L2.St} (h : Fit A r F σ H) {i : Nat} {s : Sl} {v : V} (e : look r i = some s) (ev : σ[i]? = some (some v)) (l : isLst s.d = true) (hK : A.K = K) : tyV K "list" v H := by
  have g := h.seen (look_some e) ev
  obtain ⟨ds, hd⟩ := lst_of l
  rw [hd] at g
  obtain ⟨a, xs, rfl, hx, _, _⟩ := g
  exact .inl ⟨rfl, xs, by rw [← hK]; exact hx⟩
theorem ix_small {n : Nat} {k : Int} {j : Nat} (h : ixN n k = some j) (hn : n ≤ sizeLine) : seqIndex? k n = some j ∧ -(2 ^ 63) ≤ k ∧ k < 2 ^ 63 := by
  obtain ⟨h1, h2, h3, h4⟩ := ixN_seq h
  have hs : sizeLine = 16777216 := sizeLine_eq
  exact ⟨h1, by omega, by omega⟩
/-- xs.pop(k) -/
theorem imp_pop {i : Nat} {a : E} {σ : L2.St} {H : Hp} {Q : VK} (h : rdE K pro (run W (.pop i a)) σ H Q) :
    tBM K "list" rPopAt (tVar i) (tCons (rdE K pro (run W a)) tNil) σ H Q := by
  obtain ⟨A, r, F, o, r', ok, fit, hm, q⟩ := h
  unfold run at hm
  obtain ⟨s, hs, hm⟩ := bindS hm
  dsimp only at hm
  split at hm
  · rename_i hl
    obtain ⟨⟨oa, r1⟩, ha, hm⟩ := bindS hm
    obtain ⟨d, hd, hm⟩ := bindS hm
    obtain ⟨v, ev, _⟩ := fit.slot i s (look_some hs)
    refine ⟨v, ev, fit.tyL hs ev hl ok.k, A, r, F, oa, r1, ok, fit, ha, fun v1 F1 H1 s1 f1 k1 => ?_⟩
    obtain ⟨F1', s1', f1', h1⟩ := f1.hold k1
    have g1 := Held.seen f1' h1 hd
    have fin : ∀ (ds : List Dat) (m : Mu) (k : Int) (j : Nat) (x : Dat), m ≠ .fz → look r1 i = some ⟨.lst ds, m⟩ → d = .int k → ixN ds.length k = some j → ds[j]? = some x → o = .val x → r' = r1.set i (some ⟨.lst (ds.eraseIdx j), m⟩) → rPopAt v [v1] H1 Q := by
      rintro ds m k j x mz hi rfl hj hx rfl rfl
      have hi' := look_some hi
      obtain ⟨w, w1, w2⟩ := f1'.slot i _ hi'
      rw [ev] at w1
      cases w1
      obtain ⟨b, rfl⟩ := w2.ref mz
      obtain ⟨m1, m2, xs, m3, m4, m5⟩ := w2.mine mz
      have hlen := DenL.length m5
      rw [hlen] at hj
      obtain ⟨j1, j2, j3⟩ := ix_small hj m4
      obtain ⟨y, hy, dy⟩ := DenL.getD m5 hx
      refine ⟨b, xs, k, j, y, rfl, by rw [show v1 = V.int k from g1], m3, j2, j3, j1, hy, ?_⟩
      have fr := f1'.rewrite (xs := xs.eraseIdx j) hi' mz ev (Nat.le_trans (len_erase xs j) m4) (DenL.erase j m5)
      exact q y F1' _ (s1.trans s1') fr dy
    split at hm
    · rename_i ds k hi
      obtain ⟨j, hj, hm⟩ := bindS hm
      obtain ⟨x, hx, hm⟩ := bindS hm
      cases hm
      exact fin ds .own k j x (by decide) hi rfl hj hx rfl rfl
    · rename_i ds k hi
      obtain ⟨j, hj, hm⟩ := bindS hm
      obtain ⟨x, hx, hm⟩ := bindS hm
      cases hm
      exact fin ds .io k j x (by decide) hi rfl hj hx rfl rfl
    · cases hm
  · cases hm
/-- xs.append(x) -/
theorem imp_app {i : Nat} {a : E} {σ : L2.St} {H : Hp} {Q : VK} (h : rdE K pro (run W (.app i a)) σ H Q) :
    tBM K "list" rAppend (tVar i) (tCons (rdE K pro (run W a)) tNil) σ H Q := by
  obtain ⟨A, r, F, o, r', ok, fit, hm, q⟩ := h
  unfold run at hm
  obtain ⟨s, hs, hm⟩ := bindS hm
  dsimp only at hm
  split at hm
  · rename_i hl
    obtain ⟨⟨oa, r1⟩, ha, hm⟩ := bindS hm
    obtain ⟨⟨x, r2⟩, hd, hm⟩ := bindS hm
    obtain ⟨v, ev, _⟩ := fit.slot i s (look_some hs)
    refine ⟨v, ev, fit.tyL hs ev hl ok.k, A, r, F, oa, r1, ok, fit, ha, fun v1 F1 H1 s1 f1 k1 => ?_⟩
    obtain ⟨F1', s1', f1', h1⟩ := f1.frz k1 hd
    have fin : ∀ (ds : List Dat) (m : Mu), m ≠ .fz → look r2 i = some ⟨.lst ds, m⟩ → ds.length < sizeLine → o = .val .non → r' = r2.set i (some ⟨.lst (ds ++ [x]), m⟩) → rAppend v [v1] H1 Q := by
      rintro ds m mz hi hj rfl rfl
      have hi' := look_some hi
      obtain ⟨w, w1, w2⟩ := f1'.slot i _ hi'
      rw [ev] at w1
      cases w1
      obtain ⟨b, rfl⟩ := w2.ref mz
      obtain ⟨m1, m2, xs, m3, m4, m5⟩ := w2.mine mz
      have hlen := DenL.length m5
      refine ⟨b, xs, v1, rfl, rfl, m3, by omega, ?_⟩
      have fr := f1'.rewrite (xs := xs ++ [v1]) hi' mz ev (by rw [List.length_append, List.length_singleton]; omega) (DenL.app m5 (DenL.one h1))
      exact q .non F1' _ (s1.trans s1') fr rfl
    dsimp only at hm
    split at hm
    · rename_i ds hi
      split at hm
      · rename_i hz
        cases hm
        exact fin ds .own (by decide) hi hz rfl rfl
      · cases hm
    · rename_i ds hi
      split at hm
      · rename_i hz
        cases hm
        exact fin ds .io (by decide) hi hz rfl rfl
      · cases hm
    · cases hm
  · cases hm
/-- xs[k] = e, d[k] = e -/
theorem imp_setAt {n : Nat} {i : Nat} {ix e : E} {D : Ends} {σ : L2.St} {H : Hp} (h : rdS K pro (runS W n (.setAt i ix e)) D σ H) :
    tAsg (rdE K pro (run W e)) (gSub (tVar i) (rdE K pro (run W ix)) (rSetDL K)) D σ H := by
  obtain ⟨A, r, F, fl, ok, fit, hm, q⟩ := h
  unfold runS at hm
  obtain ⟨⟨oa, r1⟩, ha, hm⟩ := bindS hm
  obtain ⟨⟨x, r2⟩, hd, hm⟩ := bindS hm
  obtain ⟨s0, hs0, hm⟩ := bindS hm
  obtain ⟨⟨ob, r3⟩, hb, hm⟩ := bindS hm
  dsimp only at hm
  refine ⟨A, r, F, oa, r1, ok, fit, ha, fun v1 F1 H1 s1 f1 k1 => ?_⟩
  obtain ⟨F1', s1', f1', h1⟩ := f1.frz k1 hd
  obtain ⟨v0, ev0, _⟩ := f1'.slot i s0 (look_some hs0)
  have fin : ∀ (ds : List Dat) (m : Mu) (k : Int) (j : Nat), m ≠ .fz → look r3 i = some ⟨.lst ds, m⟩ → res r3 ob = some (.int k) → ixN ds.length k = some j → fl = .next (r3.set i (some ⟨.lst (ds.set j x), m⟩)) →
      (∃ v, σ[i]? = some (some v)) → gSub (tVar i) (rdE K pro (run W ix)) (rSetDL K) v1 σ H1 D.nx := by
    rintro ds m k j mz hi hk hj rfl ⟨v, ev⟩
    have hi' := look_some hi
    refine ⟨v, ev, A, r2, F1', ob, r3, ok, f1', hb, fun v2 F2 H2 s2 f2 k2 => ?_⟩
    obtain ⟨F2', s2', f2', h2⟩ := f2.hold k2
    have g1 := Held.seen f2' h2 hk
    obtain ⟨w, w1, w2⟩ := f2'.slot i _ hi'
    rw [ev] at w1
    cases w1
    obtain ⟨b, rfl⟩ := w2.ref mz
    obtain ⟨m1, m2, xs, m3, m4, m5⟩ := w2.mine mz
    have hlen := DenL.length m5
    rw [hlen] at hj
    refine .inl ⟨b, xs, k, j, rfl, g1, m3, hj, ?_⟩
    have fr := f2'.rewrite (xs := xs.set j v1) hi' mz ev (by rw [List.length_set]; exact m4) (DenL.set (Den.mono (s2.trans s2') _ h1) j m5)
    exact q σ F2' _ ((s1.trans s1').trans (s2.trans s2')) fr
  have finD : ∀ (ks vs : List Dat) (m : Mu) (k : Dat), m ≠ .fz → look r3 i = some ⟨.dct ks vs, m⟩ → res r3 ob = some k → okey ks k = true → ks.length < sizeLine → fl = .next (r3.set i (some ⟨putD k x ks vs, m⟩)) →
      (∃ v, σ[i]? = some (some v)) → gSub (tVar i) (rdE K pro (run W ix)) (rSetDL K) v1 σ H1 D.nx := by
    rintro ks vs m k mz hi hk hok hl rfl ⟨v, ev⟩
    have hi' := look_some hi
    refine ⟨v, ev, A, r2, F1', ob, r3, ok, f1', hb, fun v2 F2 H2 s2 f2 k2 => ?_⟩
    obtain ⟨F2', s2', f2', h2⟩ := f2.hold k2
    have g1 := Held.seen f2' h2 hk
    obtain ⟨w, w1, w2⟩ := f2'.slot i _ hi'
    rw [ev] at w1
    cases w1
    obtain ⟨b, rfl⟩ := w2.ref mz
    obtain ⟨m1, m2, m3⟩ := w2.mine mz
    refine .inr ⟨b, F2', ks, vs, k, x, rfl, f2'.sub, by rw [← ok.k]; exact Seen.own m3, by rw [← ok.k]; exact g1, hok, by rw [← ok.k]; exact Den.mono (s2.trans s2') _ h1, hl, fun H' pt => ?_⟩
    obtain ⟨u, rfl, ow⟩ := pt
    rw [← ok.k] at ow
    exact q σ F2' _ ((s1.trans s1').trans (s2.trans s2')) (f2'.rewriteO hi' mz ev ow)
  split at hm
  · rename_i ds k hi hk
    obtain ⟨j, hj, hm⟩ := bindS hm
    cases hm
    exact fin ds .own k j (by decide) hi hk hj rfl ⟨v0, ev0⟩
  · rename_i ds k hi hk
    obtain ⟨j, hj, hm⟩ := bindS hm
    cases hm
    exact fin ds .io k j (by decide) hi hk hj rfl ⟨v0, ev0⟩
  · rename_i ks vs k hi hk
    split at hm
    · rename_i hc
      cases hm
      exact finD ks vs .own k (by decide) hi hk hc.1 hc.2 rfl ⟨v0, ev0⟩
    · cases hm
  · rename_i ks vs k hi hk
    split at hm
    · rename_i hc
      cases hm
      exact finD ks vs .io k (by decide) hi hk hc.1 hc.2 rfl ⟨v0, ev0⟩
    · cases hm
  · cases hm

/-! ### targets -/
def gNames : List Nat → TGs
  | [] => gNil
  | i :: is => gCons (gName i) (gNames is)
def gT (K : Kw) : Tg → TG
  | .name i => gName i
  | .tup is => fun v σ H Q => gTup K is.length (gNames is) v σ H Q ∨ gUnl K is.length (gNames is) v σ H Q
def tgSlots : Tg → List Nat
  | .name i => [i]
  | .tup is => is
theorem putAll_ok {A : Fr} {F H : Hp} {Q : L2.St → Hp → Prop} : ∀ {is : List Nat} {ds : List Dat} {xs : List V} {r r' : Rho} {σ : L2.St}, Fit A r F σ H → DenL A.K F ds xs → putAll r is ds = some r' → (∀ p ∈ A.pro, p.1 ∉ is) →
    (∀ σ', σ'.length = σ.length → (∀ j, j ∉ is → σ'[j]? = σ[j]?) → Fit A r' F σ' H → Q σ' H) → xs.length = is.length ∧ gNames is xs σ H Q
  | [], [], xs, r, r', σ, fit, hd, hp, hpr, q => by
    have hd : xs = [] := hd
    subst hd
    cases hp
    exact ⟨rfl, rfl, q σ rfl (fun _ _ => rfl) fit⟩
  | i :: is, d :: ds, xs, r, r', σ, fit, hd, hp, hpr, q => by
    obtain ⟨v, vs, rfl, h1, h2⟩ := hd
    have f1 := fit.put (i := i) (s := ⟨d, .fz⟩) (v := v) (fun p hpp z => hpr p hpp (by rw [z]; exact List.mem_cons_self)) h1 fun z => absurd rfl z
    obtain ⟨l, g⟩ := putAll_ok (Q := Q) (is := is) f1 h2 hp (fun p hpp z => hpr p hpp (List.mem_cons_of_mem _ z)) fun σ' hl hs f' => q σ' (by rw [hl, List.length_set]) (fun j hj => by
      rw [hs j fun z => hj (List.mem_cons_of_mem _ z), List.getElem?_set_ne fun z => hj (by rw [z]; exact List.mem_cons_self)]) f'
    exact ⟨by rw [List.length_cons, List.length_cons, l], v, vs, rfl, g⟩
  | [], _ :: _, _, _, _, _, _, _, hp, _, _ => by cases hp
  | _ :: _, [], _, _, _, _, _, _, hp, _, _ => by cases hp
theorem bind_ok {A : Fr} {F H : Hp} {Q : L2.St → Hp → Prop} {tg : Tg} {d : Dat} {v : V} {r r' : Rho} {σ : L2.St} (fit : Fit A r F σ H) (hd : Den A.K F d v) (hp : bindT r tg d = some r') (hpr : ∀ p ∈ A.pro, p.1 ∉ tgSlots tg)
    (q : ∀ σ', σ'.length = σ.length → (∀ j, j ∉ tgSlots tg → σ'[j]? = σ[j]?) → Fit A r' F σ' H → Q σ' H) : gT A.K tg v σ H Q := by
  cases tg with
  | name i =>
    cases hp
    have f1 := fit.put (i := i) (s := ⟨d, .fz⟩) (v := v) (fun p hpp z => hpr p hpp (by rw [z]; exact List.mem_cons_self)) hd fun z => absurd rfl z
    exact q _ (by rw [List.length_set]) (fun j hj => List.getElem?_set_ne fun z => hj (by rw [z]; exact List.mem_cons_self)) f1
  | tup is =>
    cases d with
    | tup ds =>
      obtain ⟨a, xs, rfl, hx, lx, h2⟩ := hd
      obtain ⟨l, g⟩ := putAll_ok (Q := Q) fit h2 hp hpr q
      exact .inl ⟨a, xs, rfl, Same.seqT fit.sub hx, l, g⟩
    | lst ds =>
      obtain ⟨a, xs, rfl, hx, lx, h2⟩ := hd
      obtain ⟨l, g⟩ := putAll_ok (Q := Q) fit h2 hp hpr q
      exact .inr ⟨a, xs, rfl, Same.seq fit.sub hx, l, g⟩
    | _ => cases hp

/-! ### what is walked -/
/-- one item: a settled datum, or a new tuple of such -/
def Step (K : Kw) (F H : Hp) (x : V) (H' : Hp) (d : Dat) : Prop := NewOk K F H x H' (.val d)
structure JW (K : Kw) (F : Hp) (J : It) (ds : List Dat) : Prop where
  small : ds.length ≤ sizeLine
  go : ∀ i H, Same F H → i < ds.length → J.go i H
  yld : ∀ i d H x H', Same F H → ds[i]? = some d → J.yld i H x H' → ∃ F', New0 F H F' H' ∧ Den K F' d x
  stop : ∀ i H, Same F H → ds.length = i → J.stop i H
def rdI (K : Kw) (pro : List Nat) (m : Rho → Option (List Dat × Rho)) : TI := fun σ H R => ∃ A r F ds r', Ok K pro A ∧ Fit A r F σ H ∧ m r = some (ds, r') ∧ ∀ J F' H', Same F F' → Fit A r' F' σ H' → JW A.K F' J ds → R J H'
theorem jw_list {F H : Hp} {a : Addr} {xs : List V} {ds : List Dat} (h : SqL K F a xs) (l : xs.length ≤ sizeLine) (r : DenL K F ds xs) : JW K F (Itl K a) ds where
  small := by rw [DenL.length r]; exact l
  go := fun i H s hi => by
    rw [DenL.length r] at hi
    exact ⟨xs, xs[i], s.seq h, List.getElem?_eq_getElem hi⟩
  yld := fun i d H x H' s hd y => by
    obtain ⟨e, y⟩ := y
    subst e
    obtain ⟨x', hx, dx⟩ := DenL.getD r hd
    rw [y xs (s.seq h)] at hx
    cases hx
    exact ⟨F, New0.refl s, dx⟩
  stop := fun i H s hi => ⟨xs, s.seq h, by rw [← DenL.length r]; exact Nat.le_of_eq hi⟩
theorem jw_tup {F H : Hp} {a : Addr} {xs : List V} {ds : List Dat} (h : SqT K F a xs) (l : xs.length ≤ sizeLine) (r : DenL K F ds xs) : JW K F (Itt K a) ds where
  small := by rw [DenL.length r]; exact l
  go := fun i H s hi => by
    rw [DenL.length r] at hi
    exact ⟨xs, xs[i], Same.seqT s h, List.getElem?_eq_getElem hi⟩
  yld := fun i d H x H' s hd y => by
    obtain ⟨e, y⟩ := y
    subst e
    obtain ⟨x', hx, dx⟩ := DenL.getD r hd
    rw [y xs (Same.seqT s h)] at hx
    cases hx
    exact ⟨F, New0.refl s, dx⟩
  stop := fun i H s hi => ⟨xs, Same.seqT s h, by rw [← DenL.length r]; exact Nat.le_of_eq hi⟩
theorem jw_str {F : Hp} {x : Str} (l : x.length ≤ sizeLine) : JW K F (Its x) ((signs x).map .str) where
  small := by
    unfold signs
    rw [List.length_map, List.length_map, Array.length_toList]
    exact l
  go := fun i H s hi => by
    unfold signs at hi
    rw [List.length_map, List.length_map, Array.length_toList] at hi
    exact hi
  yld := fun i d H v H' s hd y => by
    obtain ⟨e, c, hc, rfl⟩ := y
    subst e
    unfold signs at hd
    rw [List.map_map, List.getElem?_map, Array.getElem?_toList, hc] at hd
    cases hd
    exact ⟨F, New0.refl s, rfl, by show (1 : Nat) ≤ sizeLine; decide⟩
  stop := fun i H s hi => by
    unfold signs at hi
    rw [List.length_map, List.length_map, Array.length_toList] at hi
    exact Nat.le_of_eq hi
theorem jw_range {F : Hp} {lo : Int} {n : Nat} (l : n ≤ sizeLine) : JW K F (Itr lo n) (rangeD lo n) where
  small := by
    unfold rangeD
    rw [List.length_map, List.length_range]
    exact l
  go := fun i H s hi => by
    unfold rangeD at hi
    rw [List.length_map, List.length_range] at hi
    exact hi
  yld := fun i d H v H' s hd y => by
    obtain ⟨e, rfl⟩ := y
    subst e
    unfold rangeD at hd
    rw [List.getElem?_map] at hd
    cases hr : (List.range n)[i]? with
    | none => rw [hr] at hd; cases hd
    | some k =>
      rw [hr] at hd
      cases hd
      have hk := List.getElem?_eq_some_iff.mp hr
      obtain ⟨h1, h2⟩ := hk
      rw [List.getElem_range] at h2
      subst h2
      exact ⟨F, New0.refl s, rfl⟩
  stop := fun i H s hi => by
    unfold rangeD at hi
    rw [List.length_map, List.length_range] at hi
    exact Nat.le_of_eq hi
theorem den_kd {F : Hp} {d : Dat} {v : V} {ds : List Dat} (h : Den K F d v) (e : items d = some ds) : ∃ (k : Kd) (xs : List V), k.v = v ∧ k.has K F xs ∧ xs.length ≤ sizeLine ∧ DenL K F ds xs := by
  cases d with
  | lst es =>
    cases e
    obtain ⟨a, xs, rfl, hx, lx, rx⟩ := h
    exact ⟨.l a, xs, rfl, hx, lx, rx⟩
  | tup es =>
    cases e
    obtain ⟨a, xs, rfl, hx, lx, rx⟩ := h
    exact ⟨.t a, xs, rfl, hx, lx, rx⟩
  | str z =>
    cases e
    obtain ⟨rfl, lx⟩ := h
    refine ⟨.s z 0, _, rfl, rfl, by rw [List.length_map, Array.length_toList]; exact lx, ?_⟩
    have := DenL.of_strs (K := K) (H := F) (signs z) fun n hn => by
      unfold signs at hn
      obtain ⟨c, _, rfl⟩ := List.mem_map.mp hn
      show (1 : Nat) ≤ sizeLine
      decide
    unfold signs at this ⊢
    rw [List.map_map] at this ⊢
    rw [List.map_map] at this
    exact this
  | _ => cases e
theorem Kd.has_mono {F H : Hp} (s : Same F H) {k : Kd} {xs : List V} (h : k.has K F xs) : k.has K H xs := by
  cases k with
  | l a => exact s.seq h
  | t a => exact Same.seqT s h
  | s x u => exact h
theorem zipD_len : ∀ xs ys : List Dat, (zipD xs ys).length = min xs.length ys.length
  | [], _ => by simp [zipD]
  | _ :: _, [] => by simp [zipD]
  | x :: xs, y :: ys => by
    unfold zipD
    rw [List.length_cons, zipD_len xs ys, List.length_cons, List.length_cons]
    omega
theorem zipD_get : ∀ (xs ys : List Dat) (i : Nat) (d : Dat), (zipD xs ys)[i]? = some d → ∃ x y, xs[i]? = some x ∧ ys[i]? = some y ∧ d = .tup [x, y]
  | [], _, i, d, h => by simp [zipD] at h
  | _ :: _, [], i, d, h => by simp [zipD] at h
  | x :: xs, y :: ys, 0, d, h => by
    cases h
    exact ⟨x, y, rfl, rfl, rfl⟩
  | x :: xs, y :: ys, i + 1, d, h => zipD_get xs ys i d h
theorem enumD_len : ∀ (i : Nat) (xs : List Dat), (enumD i xs).length = xs.length
  | _, [] => rfl
  | i, x :: xs => by
    unfold enumD
    rw [List.length_cons, enumD_len (i + 1) xs, List.length_cons]
theorem enumD_get : ∀ (k : Nat) (xs : List Dat) (i : Nat) (d : Dat), (enumD k xs)[i]? = some d → ∃ x, xs[i]? = some x ∧ d = .tup [.int ((k + i : Nat) : Int), x]
  | _, [], i, d, h => by simp [enumD] at h
  | k, x :: xs, 0, d, h => by
    cases h
    exact ⟨x, rfl, rfl⟩
  | k, x :: xs, i + 1, d, h => by
    obtain ⟨y, e, rfl⟩ := enumD_get (k + 1) xs i d h
    exact ⟨y, e, by rw [show k + 1 + i = k + (i + 1) by omega]⟩
theorem jw_zip {F : Hp} {k1 k2 : Kd} {xs ys : List V} {ds es : List Dat} (h1 : k1.has K F xs) (h2 : k2.has K F ys) (l : xs.length ≤ sizeLine) (r1 : DenL K F ds xs) (r2 : DenL K F es ys) : JW K F (Itz2 K k1 k2) (zipD ds es) where
  small := by rw [zipD_len, DenL.length r1]; exact Nat.le_trans (Nat.min_le_left _ _) l
  go := fun i H s hi => ⟨xs, ys, Kd.has_mono s h1, Kd.has_mono s h2, by rw [← DenL.length r1, ← DenL.length r2, ← zipD_len]; exact hi⟩
  yld := fun i d H x H' s hd y => by
    obtain ⟨T, a, b, rfl, hT, rfl, f1, f2⟩ := y
    obtain ⟨da, db, e1, e2, rfl⟩ := zipD_get _ _ _ _ hd
    obtain ⟨va, g1, q1⟩ := DenL.getD r1 e1
    obtain ⟨vb, g2, q2⟩ := DenL.getD r2 e2
    rw [f1 xs (Kd.has_mono s h1)] at g1
    rw [f2 ys (Kd.has_mono s h2)] at g2
    cases g1
    cases g2
    exact tup0 s hT (by show 2 ≤ sizeLine; decide) (DenL.cons q1 (DenL.one q2))
  stop := fun i H s hi => ⟨xs, ys, Kd.has_mono s h1, Kd.has_mono s h2, by rw [← DenL.length r1, ← DenL.length r2, ← zipD_len]; exact hi.symm⟩
theorem jw_enum {F : Hp} {k1 : Kd} {xs : List V} {ds : List Dat} (h1 : k1.has K F xs) (l : xs.length ≤ sizeLine) (r1 : DenL K F ds xs) : JW K F (Ite2 K k1) (enumD 0 ds) where
  small := by rw [enumD_len, DenL.length r1]; exact l
  go := fun i H s hi => ⟨xs, Kd.has_mono s h1, by rw [← DenL.length r1]; rw [enumD_len] at hi; exact hi⟩
  yld := fun i d H x H' s hd y => by
    obtain ⟨T, a, rfl, hT, rfl, f1⟩ := y
    obtain ⟨da, e1, rfl⟩ := enumD_get _ _ _ _ hd
    obtain ⟨va, g1, q1⟩ := DenL.getD r1 e1
    rw [f1 xs (Kd.has_mono s h1)] at g1
    cases g1
    rw [Nat.zero_add]
    exact tup0 s hT (by show 2 ≤ sizeLine; decide) (DenL.cons rfl (DenL.one q1))
  stop := fun i H s hi => ⟨xs, Kd.has_mono s h1, by rw [← DenL.length r1]; rw [enumD_len] at hi; exact hi.symm⟩
theorem imp_zip {es : Es} {σ : L2.St} {H : Hp} {R : It → Hp → Prop} (h : rdI K pro (runI W (.zip es)) σ H R) : iZip2 K (rdL K pro (runL W es)) σ H R := by
  obtain ⟨A, r, F, ds, r', ok, fit, hm, q⟩ := h
  unfold runI at hm
  obtain ⟨⟨os, r1⟩, ha, hm⟩ := bindS hm
  dsimp only at hm
  split at hm
  · rename_i d e
    obtain ⟨xs, hx, hm⟩ := bindS hm
    obtain ⟨ys, hy, hm⟩ := bindS hm
    cases hm
    refine ⟨A, r, F, [d, e], r', ok, fit, ha, fun vs F1 H1 s1 f1 dl => ?_⟩
    obtain ⟨v, vs1, rfl, dv, dl⟩ := dl
    obtain ⟨w, vs2, rfl, dw, dl⟩ := dl
    cases dl
    obtain ⟨k1, zs1, rfl, g1, l1, n1⟩ := den_kd dv hx
    obtain ⟨k2, zs2, rfl, g2, l2, n2⟩ := den_kd dw hy
    rw [ok.k] at g1 g2 n1 n2
    refine ⟨k1, k2, zs1, zs2, rfl, Kd.has_mono f1.sub g1, Kd.has_mono f1.sub g2, ?_⟩
    exact q _ F1 H1 s1 f1 (by rw [ok.k]; exact jw_zip g1 g2 l1 n1 n2)
  · cases hm
theorem imp_enm {es : Es} {σ : L2.St} {H : Hp} {R : It → Hp → Prop} (h : rdI K pro (runI W (.enm es)) σ H R) : iEnum2 K (rdL K pro (runL W es)) σ H R := by
  obtain ⟨A, r, F, ds, r', ok, fit, hm, q⟩ := h
  unfold runI at hm
  obtain ⟨⟨os, r1⟩, ha, hm⟩ := bindS hm
  dsimp only at hm
  split at hm
  · rename_i d
    obtain ⟨xs, hx, hm⟩ := bindS hm
    cases hm
    refine ⟨A, r, F, [d], r', ok, fit, ha, fun vs F1 H1 s1 f1 dl => ?_⟩
    obtain ⟨v, vs1, rfl, dv, dl⟩ := dl
    cases dl
    obtain ⟨k1, zs1, rfl, g1, l1, n1⟩ := den_kd dv hx
    rw [ok.k] at g1 n1
    exact ⟨k1, zs1, rfl, Kd.has_mono f1.sub g1, q _ F1 H1 s1 f1 (by rw [ok.k]; exact jw_enum g1 l1 n1)⟩
  · cases hm
/-- over a list, a tuple, a text -/
theorem pi_seq {X : Cx} {G : CK} {tg e : Expr} {ir : E} (hK : (X.kw G) = K) (h : PE X e (rdE K pro (run W ir))) : PI X tg e (rdI K pro (runI W (.seq ir))) := by
  refine ⟨fun pins s σ H R I hr => ?_⟩
  obtain ⟨A, r, F, ds, r', ok, fit, hm, q⟩ := hr
  unfold runI at hm
  obtain ⟨⟨oa, r1⟩, ha, hm⟩ := bindS hm
  obtain ⟨⟨d, r2⟩, hd, hm⟩ := bindS hm
  obtain ⟨ds', hi, hm⟩ := bindS hm
  cases hm
  cases d with
  | lst es =>
    cases hi
    refine (pi_list h).run pins s σ H R I ⟨A, r, F, oa, r1, ok, fit, ha, fun v F1 H1 s1 f1 k1 => ?_⟩
    obtain ⟨F1', s1', f1', a, xs, rfl, hx, lx, rx⟩ := f1.frz k1 hd
    refine ⟨a, rfl, ⟨xs, ?_⟩, ?_⟩
    · rw [show X.K = K.K from congrArg Kw.K hK, ← ok.k]
      exact f1'.sub.seq hx
    · rw [show X.K = K.K from congrArg Kw.K hK, ← ok.k]
      exact q _ F1' H1 (s1.trans s1') f1' (jw_list (H := H1) hx lx rx)
  | tup es =>
    cases hi
    refine (pi_tup h).run pins s σ H R I ⟨A, r, F, oa, r1, ok, fit, ha, fun v F1 H1 s1 f1 k1 => ?_⟩
    obtain ⟨F1', s1', f1', a, xs, rfl, hx, lx, rx⟩ := f1.frz k1 hd
    refine ⟨a, rfl, ⟨xs, ?_⟩, ?_⟩
    · rw [show X.K = K.K from congrArg Kw.K hK, ← ok.k]
      exact Same.seqT f1'.sub hx
    · rw [show X.K = K.K from congrArg Kw.K hK, ← ok.k]
      exact q _ F1' H1 (s1.trans s1') f1' (jw_tup (H := H1) hx lx rx)
  | str z =>
    cases hi
    refine (pi_str h).run pins s σ H R I ⟨A, r, F, oa, r1, ok, fit, ha, fun v F1 H1 s1 f1 k1 => ?_⟩
    obtain ⟨F1', s1', f1', rfl, lx⟩ := f1.frz k1 hd
    exact ⟨z, rfl, q _ F1' H1 (s1.trans s1') f1' (jw_str lx)⟩
  | _ => cases hi
theorem imp_rng1 {a : E} {σ : L2.St} {H : Hp} {R : It → Hp → Prop} (h : rdI K pro (runI W (.rng1 a)) σ H R) : iRng1 (tCons (rdE K pro (run W a)) tNil) σ H R := by
  obtain ⟨A, r, F, ds, r', ok, fit, hm, q⟩ := h
  unfold runI at hm
  obtain ⟨⟨oa, r1⟩, ha, hm⟩ := bindS hm
  dsimp only at hm
  split at hm
  · rename_i n hn
    split at hm
    · rename_i hz
      cases hm
      refine ⟨A, r, F, oa, r', ok, fit, ha, fun v F1 H1 s1 f1 k1 => ?_⟩
      obtain ⟨F1', s1', f1', h1⟩ := f1.hold k1
      have g1 := Held.seen f1' h1 hn
      have hs : sizeLine = 16777216 := sizeLine_eq
      exact ⟨n, by rw [show v = V.int n from g1], hz.1, by omega, q _ F1' H1 (s1.trans s1') f1' (jw_range hz.2)⟩
    · cases hm
  · cases hm
theorem imp_rng2 {a b : E} {σ : L2.St} {H : Hp} {R : It → Hp → Prop} (h : rdI K pro (runI W (.rng2 a b)) σ H R) : iRng2 (tCons (rdE K pro (run W a)) (tCons (rdE K pro (run W b)) tNil)) σ H R := by
  obtain ⟨A, r, F, ds, r', ok, fit, hm, q⟩ := h
  unfold runI at hm
  obtain ⟨⟨oa, r1⟩, ha, hm⟩ := bindS hm
  obtain ⟨⟨ob, r2⟩, hb, hm⟩ := bindS hm
  dsimp only at hm
  split at hm
  · rename_i i j hi hj
    split at hm
    · rename_i hz
      cases hm
      refine ⟨A, r, F, oa, r1, ok, fit, ha, fun v F1 H1 s1 f1 k1 => ?_⟩
      obtain ⟨F1', s1', f1', h1⟩ := f1.hold k1
      refine ⟨A, r1, F1', ob, r', ok, f1', hb, fun v2 F2 H2 s2 f2 k2 => ?_⟩
      obtain ⟨F2', s2', f2', h2⟩ := f2.hold k2
      have g1 := Held.seen f2' (h1.mono (s2.trans s2')) hi
      have g2 := Held.seen f2' h2 hj
      exact ⟨i, j, by rw [show v = V.int i from g1, show v2 = V.int j from g2], ⟨hz.1, hz.2.1, hz.2.2.1, hz.2.2.2.1⟩, q _ F2' H2 ((s1.trans s1').trans (s2.trans s2')) f2' (jw_range hz.2.2.2.2)⟩
    · cases hm
  · cases hm

/-! ### slots wiped -/
theorem wipeR_len (r : Rho) : ∀ is : List Nat, (wipeR r is).length = r.length
  | [] => rfl
  | i :: is => by unfold wipeR; rw [List.length_set, wipeR_len r is]
theorem wipeR_get {r : Rho} {j : Nat} {s : Sl} : ∀ {is : List Nat}, (wipeR r is)[j]? = some (some s) → r[j]? = some (some s) ∧ j ∉ is
  | [], h => ⟨h, by simp⟩
  | i :: is, h => by
    unfold wipeR at h
    rcases set_get h with ⟨_, z⟩ | ⟨n, z⟩
    · cases z
    · obtain ⟨h1, h2⟩ := wipeR_get z
      exact ⟨h1, by simp only [List.mem_cons, not_or]; exact ⟨n, h2⟩⟩
theorem Fit.wiped {A : Fr} {r : Rho} {F H : Hp} {σ : L2.St} (h : Fit A r F σ H) (is : List Nat) : Fit A (wipeR r is) F σ H := h.less (wipeR_len r is) fun _ _ e => (wipeR_get e).1
theorem wipe_ne (σ : L2.St) {j : Nat} : ∀ {is : List Nat}, j ∉ is → (wipe σ is)[j]? = σ[j]?
  | [], _ => rfl
  | i :: is, h => by
    unfold wipe
    rw [List.getElem?_set_ne (fun z => h (by rw [z]; exact List.mem_cons_self))]
    exact wipe_ne σ fun z => h (List.mem_cons_of_mem _ z)
theorem wipe_in (σ : L2.St) {j : Nat} : ∀ {is : List Nat}, j ∈ is → (wipe σ is)[j]? = if j < σ.length then some none else none
  | i :: is, h => by
    unfold wipe
    by_cases e : i = j
    · subst e
      rw [List.getElem?_set_self']
      by_cases hi : i < σ.length
      · rw [if_pos hi]
        have : i < (wipe σ is).length := by rw [wipe_length]; exact hi
        rw [List.getElem?_eq_getElem this]
        rfl
      · rw [if_neg hi]
        have : ¬ i < (wipe σ is).length := by rw [wipe_length]; exact hi
        rw [List.getElem?_eq_none (by omega)]
        rfl
    · rw [List.getElem?_set_ne e]
      rcases List.mem_cons.mp h with z | z
      · exact absurd z.symm e
      · exact wipe_in σ z
theorem wipe_eq {σ σ' : L2.St} {is : List Nat} (hl : σ'.length = σ.length) (h : ∀ j, j ∉ is → σ'[j]? = σ[j]?) : wipe σ' is = wipe σ is := by
  refine List.ext_getElem? fun j => ?_
  by_cases hj : j ∈ is
  · rw [wipe_in _ hj, wipe_in _ hj, hl]
  · rw [wipe_ne _ hj, wipe_ne _ hj, h j hj]
theorem Fit.toWipe {A : Fr} {r : Rho} {F H : Hp} {σ : L2.St} (h : Fit A r F σ H) {is : List Nat} (hp : ∀ p ∈ A.pro, p.1 ∉ is) : Fit A (wipeR r is) F (wipe σ is) H :=
  h.moved (by rw [wipeR_len, wipe_length, h.len]) (fun j s e => ⟨(wipeR_get e).1, wipe_ne σ (wipeR_get e).2⟩) fun p hpp => by rw [wipe_ne σ (hp p hpp)]; exact h.pro p hpp

/-! ### comprehensions -/
theorem back_len (r₁ r : Rho) : ∀ is : List Nat, (back r₁ r is).length = r.length
  | [] => rfl
  | i :: is => by unfold back; rw [List.length_set, back_len r₁ r is]
theorem back_get {r₁ r : Rho} {j : Nat} {s : Sl} : ∀ {is : List Nat}, (back r₁ r is)[j]? = some (some s) → (r[j]? = some (some s) ∧ j ∉ is) ∨ (j ∈ is ∧ r₁[j]? = some (some s) ∧ s.m = .fz)
  | [], h => .inl ⟨h, by simp⟩
  | i :: is, h => by
    unfold back at h
    rcases set_get h with ⟨rfl, z⟩ | ⟨n, z⟩
    · refine .inr ⟨List.mem_cons_self, ?_⟩
      split at z
      · rename_i d hl
        cases z
        exact ⟨look_some hl, rfl⟩
      · cases z
    · rcases back_get z with ⟨h1, h2⟩ | ⟨h1, h2⟩
      · exact .inl ⟨h1, by simp only [List.mem_cons, not_or]; exact ⟨n, h2⟩⟩
      · exact .inr ⟨List.mem_cons_of_mem _ h1, h2⟩
/-- behind the block the slots are as they were ahead of it -/
theorem Fit.back {A : Fr} {r₁ r : Rho} {F₁ F H₁ H : Hp} {σ : L2.St} {is : List Nat} (h₁ : Fit A r₁ F₁ σ H₁) (sf : Same F₁ F) (h : Fit A r F (wipe σ is) H) : Fit A (Dl.back r₁ r is) F σ H := by
  refine ⟨h.sub, h.keep, h.newf, h.f0, h.ioh, fun j s e => ?_, fun j k s t a n e1 m1 e2 m2 s1 s2 => ?_, h₁.pro, by rw [back_len, h.len, wipe_length], h.tab, h.tbo⟩
  · rcases back_get e with ⟨q1, q2⟩ | ⟨_, q2, q3⟩
    · obtain ⟨v, e1, e2⟩ := h.slot j s q1
      rw [wipe_ne σ q2] at e1
      exact ⟨v, e1, e2⟩
    · obtain ⟨v, e1, e2⟩ := h₁.slot j s q2
      refine ⟨v, e1, ?_⟩
      unfold SlotOk at e2 ⊢
      rw [q3] at e2 ⊢
      exact Den.mono sf _ e2
  · rcases back_get e1 with ⟨q1, q2⟩ | ⟨_, _, q3⟩
    · rcases back_get e2 with ⟨p1, p2⟩ | ⟨_, _, p3⟩
      · rw [← wipe_ne σ q2] at s1
        rw [← wipe_ne σ p2] at s2
        exact h.sep j k s t a n q1 m1 p1 m2 s1 s2
      · exact m2 p3
    · exact m1 q3
/-- the turn of a comprehension -/
def turnC (W : Wd) (own : List Nat) (tg : Tg) (c : Ot) (elt : E) (d : Dat) (r : Rho) : Option (Option Dat × Rho) := do
  let r ← bindT r tg d
  let (t, r) ← runOt W c r
  if t = true then
    let (o, r) ← run W elt r
    let (x, r) ← frz r o
    some (some x, wipeR r own)
  else some (none, wipeR r own)
theorem imp_comp {own : List Nat} {tg : Tg} {src : Src} {c : Ot} {elt : E} {σ : L2.St} {H : Hp} {Q : VK} (ho : ∀ i ∈ tgSlots tg, i ∈ own) (hp : ∀ i ∈ pro, i ∉ own)
    (h : rdE K pro (run W (.comp own tg src c elt)) σ H Q) : tLc (rdI K pro (runI W src)) (gT K tg) (rdT K pro (runOt W c)) (rdE K pro (run W elt)) own σ H Q := by
  obtain ⟨A, r, F, o, r', ok, fit, hm, q⟩ := h
  unfold run at hm
  obtain ⟨⟨ds, r1⟩, hs, hm⟩ := bindS hm
  have hm : ((compD (turnC W own tg c elt) ds (wipeR r1 own)).bind fun z => some (Out.fresh (.lst z.1), Dl.back r1 z.2 own)) = some (o, r') := hm
  obtain ⟨⟨xs, r2⟩, hc, hm⟩ := bindS hm
  cases hm
  have hpr : ∀ p ∈ A.pro, p.1 ∉ own := fun p hpp => hp _ (ok.p p hpp)
  refine ⟨A, r, F, ds, r1, ok, fit, hs, fun J F1 H1 s1 f1 jw => ?_⟩
  intro D hD
  have fD : F1 D = none := f1.sub.free hD
  obtain ⟨h0D, ioD⟩ := f1.free hD
  have f0D : A.F0 D = none := f1.f0.free fD
  have mD : ¬ Mine r1 σ D := fun m => by
    obtain ⟨_, _, u, z⟩ := f1.mine m
    rw [hD] at z
    cases z
  -- the state ahead of turn i: acc is what stands at D
  refine ⟨fun i m Hi => i + m = ds.length ∧ ∃ (ri : Rho) (Fi : Hp) (acc : List V) (ys zs : List Dat), Same F1 Fi ∧ Fit A ri Fi (wipe σ own) Hi ∧ Hi D = some (.lst acc) ∧ Fi D = none ∧ ¬ Mine ri (wipe σ own) D ∧ DenL A.K Fi ys acc ∧ acc.length ≤ i ∧
      compD (turnC W own tg c elt) (ds.drop i) ri = some (zs, r2) ∧ xs = ys ++ zs, ⟨ds.length, by omega, wipeR r1 own, F1, [], [], xs, Same.refl F1, ?_, upd_same, fD, ?_, rfl, Nat.le_refl _, by rw [List.drop_zero]; exact hc, rfl⟩, ?_⟩
  · refine (f1.toWipe hpr).grow (New.of (Same.refl F1) (fun b u e => ?_) (same_upd hD) (fun _ _ e => .inl e))
    exact same_upd hD b u (f1.sub b u e)
  · intro m
    obtain ⟨i, s, e1, e2, e3⟩ := m
    obtain ⟨w1, w2⟩ := wipeR_get e1
    rw [wipe_ne σ w2] at e3
    exact mD ⟨i, s, w1, e2, e3⟩
  · rintro i m Hi ⟨him, ri, Fi, acc, ys, zs, sFi, fi, hDi, fDi, mDi, dl, la, hci, rfl⟩
    by_cases hi : i < ds.length
    · refine .inr ⟨jw.go i Hi (sFi.trans fi.sub) hi, fun Hn => ∃ (rn : Rho) (Fn : Hp) (an : List V) (yn zn : List Dat), Same F1 Fn ∧ Fit A rn Fn (wipe σ own) Hn ∧ Hn D = some (.lst an) ∧ Fn D = none ∧ ¬ Mine rn (wipe σ own) D ∧ DenL A.K Fn yn an ∧ an.length ≤ i + 1 ∧
          compD (turnC W own tg c elt) (ds.drop (i + 1)) rn = some (zn, r2) ∧ ys ++ zs = yn ++ zn, ?_, ?_⟩
      · rintro Hn ⟨rn, Fn, an, yn, zn, g⟩
        exact ⟨m - 1, by omega, by omega, rn, Fn, an, yn, zn, g⟩
      · intro x Hx hy
        obtain ⟨d, hd⟩ : ∃ d, ds[i]? = some d := ⟨ds[i], List.getElem?_eq_getElem hi⟩
        rw [List.drop_eq_getElem_cons hi] at hci
        have hdi : ds[i] = d := by
          rw [List.getElem?_eq_getElem hi] at hd
          exact Option.some.inj hd
        rw [hdi] at hci
        unfold compD at hci
        obtain ⟨⟨ox, rt⟩, ht, hci⟩ := bindS hci
        obtain ⟨⟨zr, r3⟩, hr, hci⟩ := bindS hci
        cases hci
        unfold turnC at ht
        obtain ⟨rb, hb, ht⟩ := bindS ht
        obtain ⟨⟨t, rc⟩, hcd, ht⟩ := bindS ht
        dsimp only at ht
        -- the item
        obtain ⟨Fx0, nx0, dx0⟩ := jw.yld i d Hi x Hx (sFi.trans fi.sub) hd hy
        have nx : New A.K Fi Hi (fun b => match Fi b with | some u => some u | none => Fx0 b) Hx := by
          refine New.of (fun b u e => by simp only [e]) (fun b u e => ?_) nx0.hh (fun b u e => ?_)
          · cases q1 : Fi b with
            | some w =>
              simp only [q1] at e
              cases e
              exact nx0.hh _ _ (fi.sub _ _ q1)
            | none =>
              simp only [q1] at e
              exact nx0.fh _ _ e
          · cases q1 : Fi b with
            | some w =>
              simp only [q1] at e
              cases e
              exact .inl rfl
            | none =>
              simp only [q1] at e
              rcases nx0.nw b u e with z | z
              · exact absurd (sFi b u z) (by rw [q1]; exact fun w => nomatch w)
              · exact .inr z
        generalize hFx : (fun b => match Fi b with | some u => some u | none => Fx0 b) = Fx at nx
        have sx : Same Fx0 Fx := fun b u e => by
          rw [← hFx]
          cases q1 : Fi b with
          | none => simp only [q1]; exact e
          | some w =>
            simp only [q1]
            rw [← nx0.fh b u e, nx0.hh b w (fi.sub b w q1)]
        have dx := Den.mono sx d dx0
        have fx := fi.grow nx
        have hDx := nx0.hh _ _ hDi
        have fDx : Fx D = none := by
          cases q1 : Fx D with
          | none => rfl
          | some u =>
            rcases nx.nw D u q1 with z | z
            · rw [fDi] at z; cases z
            · rw [hDi] at z; cases z
        -- the new list stays while the turn runs
        have gx := fx.guard hDx (fun ps z => nomatch z) fDx ioD mDi
        rw [← ok.k]
        refine bind_ok (A := A.guard D (.lst acc)) gx dx hb (fun p hpp z => hpr p hpp (ho _ z)) fun σ2 hl hag f2 => ?_
        refine ⟨wipe_eq (by rw [hl, wipe_length]) fun j hj => by rw [hag j fun z => hj (ho j z), wipe_ne σ hj], ?_⟩
        have fin : ∀ (rn : Rho) (Fn Hn : Hp), Same Fx Fn → Fit (A.guard D (.lst acc)) rn Fn σ2 Hn → Fit A (wipeR rn own) Fn (wipe σ own) Hn ∧ Hn D = some (.lst acc) ∧ Fn D = none ∧ ¬ Mine (wipeR rn own) (wipe σ own) D := by
          intro rn Fn Hn sn fn
          have fw : Fit (A.guard D (.lst acc)) (wipeR rn own) Fn (wipe σ own) Hn := by
            refine fn.moved (by rw [wipeR_len, wipe_length, fn.len, hl, wipe_length]) (fun j s e => ⟨(wipeR_get e).1, ?_⟩) fun p hpp => ?_
            · have hj := (wipeR_get e).2
              rw [hag j fun z => hj (ho j z)]
            · have := fi.pro p hpp
              exact this
          exact fw.unguard h0D f0D ioD
        refine ⟨A.guard D (.lst acc), rb, Fx, t, rc, ⟨rfl, ok.p⟩, f2, hcd, fun F3 H3 s3 f3 => ?_⟩
        cases t with
        | true =>
          rw [if_pos rfl] at ht ⊢
          obtain ⟨⟨oe, re⟩, he, ht⟩ := bindS ht
          obtain ⟨⟨xe, rf⟩, hf, ht⟩ := bindS ht
          cases ht
          refine ⟨A.guard D (.lst acc), rc, F3, oe, re, ⟨rfl, ok.p⟩, f3, he, fun v4 F4 H4 s4 f4 k4 => ?_⟩
          obtain ⟨F4', s4', f4', h4⟩ := f4.frz k4 hf
          obtain ⟨w1, w2, w3, w4⟩ := fin rf F4' H4 (s3.trans (s4.trans s4')) f4'
          have sAll : Same Fi F4' := nx.ff.trans (s3.trans (s4.trans s4'))
          have hacc : acc.length < sizeLine := by
            have := jw.small
            omega
          refine ⟨acc, w2, hacc, wipeR rf own, F4', acc ++ [v4], ys ++ [xe], zr, sFi.trans sAll, ?_, upd_same, w3, w4, DenL.app (DenL.mono sAll _ dl) (DenL.one h4), by rw [List.length_append, List.length_singleton]; omega, hr, by rw [List.append_assoc]; rfl⟩
          exact w1.changed (a := D) (Same.refl F4') (fun b u e => by rw [upd_ne (fun z => by rw [z, w3] at e; cases e)]; exact w1.sub b u e) (fun b u e nb _ => by rw [upd_ne nb]; exact e) (fun _ _ e => .inl e) (w1.tab.grow (Same.refl F4') (fun P ps hP e => by rw [upd_ne (w1.tab.ne hP w2 (fun ps z => nomatch z))]; exact e) (fun b o e => .inl e)) ⟨_, upd_same⟩ (.inl h0D) w4
        | false =>
          rw [if_neg Bool.false_ne_true] at ht ⊢
          cases ht
          obtain ⟨w1, w2, w3, w4⟩ := fin rc F3 H3 s3 f3
          exact ⟨wipeR rc own, F3, acc, ys, zr, sFi.trans (nx.ff.trans s3), w1, w2, w3, w4, DenL.mono (nx.ff.trans s3) _ dl, by omega, hr, rfl⟩
    · refine .inl ⟨jw.stop i Hi (sFi.trans fi.sub) (by omega), ?_⟩
      rw [List.drop_eq_nil_of_le (by omega)] at hci
      cases hci
      rw [List.append_nil] at q
      have fb := f1.back (F₁ := F1) sFi fi
      refine q (.ref D) Fi Hi (s1.trans sFi) fb ⟨D, rfl, fDi, h0D, ioD, ⟨acc, hDi, by have := jw.small; omega, dl⟩, fun mm => ?_⟩
      obtain ⟨j, s, e1, e2, e3⟩ := mm
      rcases back_get e1 with ⟨p1, p2⟩ | ⟨_, _, p3⟩
      · rw [← wipe_ne σ p2] at e3
        exact mDi ⟨j, s, p1, e2, e3⟩
      · exact e2 p3

/-! ### statements -/
theorem imp_next {D : Ends} {σ : L2.St} {H : Hp} {m : Rho → Option Fl} (hm : ∀ r, m r = some (.next r)) (h : rdS K pro m D σ H) : tNext D σ H := by
  obtain ⟨A, r, F, fl, ok, fit, h1, q⟩ := h
  rw [hm] at h1
  cases h1
  exact q σ F H (Same.refl F) fit
theorem imp_brk {n : Nat} {D : Ends} {σ : L2.St} {H : Hp} (h : rdS K pro (runS W n .brk) D σ H) : tBreak D σ H := by
  obtain ⟨A, r, F, fl, ok, fit, h1, q⟩ := h
  unfold runS at h1
  cases h1
  exact q σ F H (Same.refl F) fit
theorem imp_cont {n : Nat} {D : Ends} {σ : L2.St} {H : Hp} (h : rdS K pro (runS W n .cont) D σ H) : tCont D σ H := by
  obtain ⟨A, r, F, fl, ok, fit, h1, q⟩ := h
  unfold runS at h1
  cases h1
  exact q σ F H (Same.refl F) fit
theorem imp_retN {n : Nat} {D : Ends} {σ : L2.St} {H : Hp} (h : rdS K pro (runS W n .retN) D σ H) : tRetN D σ H := by
  obtain ⟨A, r, F, fl, ok, fit, h1, q⟩ := h
  unfold runS at h1
  cases h1
  exact q .non σ F H (Same.refl F) fit rfl
theorem imp_ret {n : Nat} {e : E} {D : Ends} {σ : L2.St} {H : Hp} (h : rdS K pro (runS W n (.ret e)) D σ H) : tRet (rdE K pro (run W e)) D σ H := by
  obtain ⟨A, r, F, fl, ok, fit, h1, q⟩ := h
  unfold runS at h1
  obtain ⟨⟨o, r1⟩, ha, h1⟩ := bindS h1
  cases h1
  exact ⟨A, r, F, o, r1, ok, fit, ha, fun v F' H' s f k => q v σ F' H' s f k⟩
theorem imp_expr {n : Nat} {e : E} {D : Ends} {σ : L2.St} {H : Hp} (h : rdS K pro (runS W n (.expr e)) D σ H) : tDrop (rdE K pro (run W e)) D σ H := by
  obtain ⟨A, r, F, fl, ok, fit, h1, q⟩ := h
  unfold runS at h1
  obtain ⟨⟨o, r1⟩, ha, h1⟩ := bindS h1
  cases h1
  exact ⟨A, r, F, o, r1, ok, fit, ha, fun v F' H' s f k => q σ F' H' s f⟩
theorem store_ok3 {A : Fr} {r r' : Rho} {F H : Hp} {σ : L2.St} {i : Nat} {o : Out} {v : V} (fit : Fit A r F σ H) (k : OutOk A r F σ H o v) (hs : store r i o = some r') (hp : ∀ p ∈ A.pro, p.1 ≠ i) : ∃ F', Same F F' ∧ Fit A r' F' (σ.set i (some v)) H := by
  cases o with
  | val d =>
    cases hs
    exact ⟨F, Same.refl F, fit.put hp k fun z => absurd rfl z⟩
  | fresh d =>
    cases hs
    obtain ⟨a, rfl, h1, h2, h3, h4, h5⟩ := k
    exact ⟨F, Same.refl F, fit.put (s := ⟨d, .own⟩) hp ⟨a, rfl, h1, h2, h3, h4⟩ fun _ b eb => by cases eb; exact h5⟩
  | place j =>
    unfold store at hs
    obtain ⟨⟨d, r1⟩, hd, hs⟩ := bindS hs
    cases hs
    obtain ⟨F', s', f', dn⟩ := fit.frz k hd
    exact ⟨F', s', f'.put hp dn fun z => absurd rfl z⟩
theorem imp_set {n : Nat} {i : Nat} {e : E} {D : Ends} {σ : L2.St} {H : Hp} (hp : i ∉ pro) (h : rdS K pro (runS W n (.set i e)) D σ H) : tAsg (rdE K pro (run W e)) (gName i) D σ H := by
  obtain ⟨A, r, F, fl, ok, fit, h1, q⟩ := h
  unfold runS at h1
  obtain ⟨⟨o, r1⟩, ha, h1⟩ := bindS h1
  obtain ⟨r2, hs, h1⟩ := bindS h1
  cases h1
  refine ⟨A, r, F, o, r1, ok, fit, ha, fun v F' H' s f k => ?_⟩
  obtain ⟨F2, s2, f2⟩ := store_ok3 f k hs fun p hpp z => hp (by rw [← z]; exact ok.p p hpp)
  exact q _ F2 H' (s.trans s2) f2
theorem imp_unp {n : Nat} {is : List Nat} {e : E} {D : Ends} {σ : L2.St} {H : Hp} (hp : ∀ i ∈ pro, i ∉ is) (h : rdS K pro (runS W n (.unp is e)) D σ H) : tAsg (rdE K pro (run W e)) (gT K (.tup is)) D σ H := by
  obtain ⟨A, r, F, fl, ok, fit, h1, q⟩ := h
  unfold runS at h1
  obtain ⟨⟨o, r1⟩, ha, h1⟩ := bindS h1
  obtain ⟨⟨d, r2⟩, hd, h1⟩ := bindS h1
  dsimp only at h1
  refine ⟨A, r, F, o, r1, ok, fit, ha, fun v F' H' s f k => ?_⟩
  obtain ⟨F2, s2, f2, dn⟩ := f.frz k hd
  cases d with
  | tup ds =>
    obtain ⟨r3, hs, h1⟩ := bindS h1
    cases h1
    rw [← ok.k]
    exact bind_ok (tg := .tup is) f2 dn hs (fun p hpp z => hp _ (ok.p p hpp) z) fun σ' _ _ f' => q σ' F2 H' (s.trans s2) f'
  | lst ds =>
    obtain ⟨r3, hs, h1⟩ := bindS h1
    cases h1
    rw [← ok.k]
    exact bind_ok (tg := .tup is) f2 dn hs (fun p hpp z => hp _ (ok.p p hpp) z) fun σ' _ _ f' => q σ' F2 H' (s.trans s2) f'
  | _ => cases h1
theorem imp_aug {n : Nat} {i : Nat} {k : K2} {e : E} {D : Ends} {σ : L2.St} {H : Hp} {ti : TIp} (hp : i ∉ pro)
    (hi : ∀ x y H Q, ((∃ a b, x = V.int a ∧ y = V.int b ∧ ((k = .add ∧ Q (V.int (a + b)) H) ∨ (k = .sub ∧ Q (V.int (a - b)) H))) ∨ (∃ a b, x = V.str a ∧ y = V.str b ∧ k = .add ∧ a.length + b.length ≤ sizeLine ∧ Q (V.str (a ++ b)) H)) → ti x y H Q)
    (h : rdS K pro (runS W n (.aug i k e)) D σ H) : tAug i (rdE K pro (run W e)) ti D σ H := by
  obtain ⟨A, r, F, fl, ok, fit, h1, q⟩ := h
  unfold runS at h1
  obtain ⟨s0, hs0, h1⟩ := bindS h1
  obtain ⟨⟨o, r1⟩, ha, h1⟩ := bindS h1
  dsimp only at h1
  obtain ⟨v0, ev0, _⟩ := fit.slot i s0 (look_some hs0)
  refine ⟨v0, ev0, A, r, F, o, r1, ok, fit, ha, fun v F' H' s f kk => ?_⟩
  obtain ⟨F2, s2, f2, h2⟩ := f.hold kk
  have val : ∀ {x : Dat}, look r1 i = some ⟨x, .fz⟩ → Den A.K F2 x v0 := fun {x} hl => by
    obtain ⟨w, w1, w2⟩ := f2.slot i _ (look_some hl)
    rw [ev0] at w1
    cases w1
    exact w2
  have fin : ∀ {z : Dat} {u : V}, Den A.K F2 z u → fl = .next (r1.set i (some ⟨z, .fz⟩)) → D.nx (σ.set i (some u)) H' := fun {z u} du efl => by
    subst efl
    exact q _ F2 H' (s.trans s2) (f2.put (fun p hpp z => hp (by rw [← z]; exact ok.p p hpp)) du fun z => absurd rfl z)
  split at h1
  · rename_i x y hx hy
    have e1 : v0 = .int x := val hx
    have e2 : v = .int y := Held.seen f2 h2 hy
    split at h1
    · cases h1
      exact hi _ _ _ _ (.inl ⟨x, y, e1, e2, .inl ⟨rfl, fin (z := .int (x + y)) rfl rfl⟩⟩)
    · cases h1
      exact hi _ _ _ _ (.inl ⟨x, y, e1, e2, .inr ⟨rfl, fin (z := .int (x - y)) rfl rfl⟩⟩)
    · cases h1
  · rename_i x y hx hy
    have e1 : v0 = .str x ∧ _ := val hx
    have e2 : v = .str y ∧ _ := Held.seen f2 h2 hy
    split at h1
    · split at h1
      · rename_i hz
        cases h1
        exact hi _ _ _ _ (.inr ⟨x, y, e1.1, e2.1, rfl, hz, fin (z := .str (x ++ y)) ⟨rfl, by rw [TL.len_tl, TL.tl_append, List.length_append, ← TL.len_tl, ← TL.len_tl]; exact hz⟩ rfl⟩)
      · cases h1
    · cases h1
  · cases h1
theorem FlOk.later {A : Fr} {F F' : Hp} {D : Ends} {fl : Fl} (s : Same F F') (q : FlOk A F D fl) : FlOk A F' D fl := by
  cases fl with
  | next _ => exact fun σ' F2 H2 s2 f2 => q σ' F2 H2 (s.trans s2) f2
  | brk _ => exact fun σ' F2 H2 s2 f2 => q σ' F2 H2 (s.trans s2) f2
  | cont _ => exact fun σ' F2 H2 s2 f2 => q σ' F2 H2 (s.trans s2) f2
  | ret _ _ => exact fun v σ' F2 H2 s2 f2 k2 => q v σ' F2 H2 (s.trans s2) f2 k2
theorem imp_ife {n : Nat} {t : T} {a b : Ss} {D : Ends} {σ : L2.St} {H : Hp} (h : rdS K pro (runS W n (.ife t a b)) D σ H) : tIfS (rdT K pro (runT W t)) (rdS K pro (runB W n a)) (rdS K pro (runB W n b)) D σ H := by
  obtain ⟨A, r, F, fl, ok, fit, h1, q⟩ := h
  unfold runS at h1
  obtain ⟨⟨c, r1⟩, ha, h1⟩ := bindS h1
  dsimp only at h1
  refine ⟨A, r, F, c, r1, ok, fit, ha, fun F' H' s f => ?_⟩
  cases c with
  | true => exact iteT ⟨A, r1, F', fl, ok, f, by rw [if_pos rfl] at h1; exact h1, q.later s⟩
  | false => exact iteF ⟨A, r1, F', fl, ok, f, by rw [if_neg Bool.false_ne_true] at h1; exact h1, q.later s⟩
theorem imp_bnil {n : Nat} {D : Ends} {σ : L2.St} {H : Hp} (h : rdS K pro (runB W n .nil) D σ H) : tNext D σ H := imp_next (fun r => by unfold runB; rfl) h
theorem imp_bcons {n : Nat} {s : S} {ss : Ss} {D : Ends} {σ : L2.St} {H : Hp} (h : rdS K pro (runB W n (.cons s ss)) D σ H) : tSeq (rdS K pro (runS W n s)) (rdS K pro (runB W n ss)) D σ H := by
  obtain ⟨A, r, F, fl, ok, fit, h1, q⟩ := h
  unfold runB at h1
  cases hs : runS W n s r with
  | none => rw [hs] at h1; cases h1
  | some f1 =>
    rw [hs] at h1
    refine ⟨A, r, F, f1, ok, fit, hs, ?_⟩
    cases f1 with
    | next r1 => exact fun σ' F' H' s' f' => ⟨A, r1, F', fl, ok, f', h1, q.later s'⟩
    | brk r1 => cases h1; exact q
    | cont r1 => cases h1; exact q
    | ret o r1 => cases h1; exact q
/-- for -/
theorem imp_for {n : Nat} {tg : Tg} {src : Src} {body : Ss} {wp : List Nat} {D : Ends} {σ : L2.St} {H : Hp} (hp : ∀ i ∈ pro, i ∉ tgSlots tg) (h : rdS K pro (runS W n (.for_ tg src body wp)) D σ H) :
    tFor (rdI K pro (runI W src)) (gT K tg) (rdS K pro (runB W n body)) D σ H := by
  obtain ⟨A, r, F, fl, ok, fit, hm, q⟩ := h
  unfold runS at hm
  obtain ⟨⟨ds, r1⟩, hs, hm⟩ := bindS hm
  dsimp only at hm
  refine ⟨A, r, F, ds, r1, ok, fit, hs, fun J F1 H1 s1 f1 jw => ?_⟩
  generalize hf : (fun (d : Dat) (r : Rho) => (do
      let r ← bindT r tg d
      runB W n body r : Option Fl)) = f at hm
  refine ⟨fun i m σi Hi => i + m = ds.length ∧ ∃ (ri : Rho) (Fi : Hp), Same F1 Fi ∧ Fit A ri Fi σi Hi ∧ forD f wp (ds.drop i) ri = some fl, ⟨ds.length, by omega, wipeR r1 wp, F1, Same.refl F1, f1.wiped wp, by rw [List.drop_zero]; exact hm⟩, ?_⟩
  rintro i m σi Hi ⟨him, ri, Fi, sFi, fi, hci⟩
  by_cases hi : i < ds.length
  · refine .inr ⟨jw.go i Hi (sFi.trans fi.sub) hi, fun σn Hn => ∃ (rn : Rho) (Fn : Hp), Same F1 Fn ∧ Fit A rn Fn σn Hn ∧ forD f wp (ds.drop (i + 1)) rn = some fl, ?_, ?_⟩
    · rintro σn Hn ⟨rn, Fn, g1, g2, g3⟩
      exact ⟨m - 1, by omega, by omega, rn, Fn, g1, g2, g3⟩
    · intro x Hx hy
      rw [List.drop_eq_getElem_cons hi] at hci
      have hd : ds[i]? = some ds[i] := List.getElem?_eq_getElem hi
      generalize ds[i] = d at hci hd
      obtain ⟨Fx0, nx0, dx0⟩ := jw.yld i d Hi x Hx (sFi.trans fi.sub) hd hy
      -- settle the item beside what is settled already
      obtain ⟨Fx, nx, dx⟩ : ∃ Fx, New A.K Fi Hi Fx Hx ∧ Den A.K Fx d x := by
        refine ⟨fun b => match Fi b with | some u => some u | none => Fx0 b, New.of (fun b u e => by simp only [e]) (fun b u e => ?_) nx0.hh (fun b u e => ?_), Den.mono (fun b u e => ?_) d dx0⟩
        · cases q1 : Fi b with
          | some w =>
            simp only [q1] at e
            cases e
            exact nx0.hh _ _ (fi.sub _ _ q1)
          | none =>
            simp only [q1] at e
            exact nx0.fh _ _ e
        · cases q1 : Fi b with
          | some w =>
            simp only [q1] at e
            cases e
            exact .inl rfl
          | none =>
            simp only [q1] at e
            rcases nx0.nw b u e with z | z
            · exact absurd (sFi b u z) (by rw [q1]; exact fun w => nomatch w)
            · exact .inr z
        · cases q1 : Fi b with
          | none => simp only [q1]; exact e
          | some w =>
            simp only [q1]
            rw [← nx0.fh b u e, nx0.hh b w (fi.sub b w q1)]
      have fx := fi.grow nx
      unfold forD at hci
      cases hfd : f d ri with
      | none => rw [hfd] at hci; cases hci
      | some fl1 =>
        rw [hfd] at hci
        have hfd2 : ((bindT ri tg d).bind fun r => runB W n body r) = some fl1 := by
          rw [← hf] at hfd
          exact hfd
        obtain ⟨rb, hb, hrun⟩ := bindS hfd2
        rw [← ok.k]
        refine bind_ok fx dx hb (fun p hpp z => hp _ (ok.p p hpp) z) fun σ2 hl hag f2 => ?_
        rw [ok.k]
        refine ⟨A, rb, Fx, fl1, ok, f2, hrun, ?_⟩
        cases fl1 with
        | next r3 => exact fun σ' F' H' s' f' => ⟨wipeR r3 wp, F', sFi.trans (nx.ff.trans s'), f'.wiped wp, hci⟩
        | cont r3 => exact fun σ' F' H' s' f' => ⟨wipeR r3 wp, F', sFi.trans (nx.ff.trans s'), f'.wiped wp, hci⟩
        | brk r3 =>
          cases hci
          exact fun σ' F' H' s' f' => q σ' F' H' (s1.trans (sFi.trans (nx.ff.trans s'))) (f'.wiped wp)
        | ret o r3 =>
          cases hci
          exact fun v σ' F' H' s' f' k' => q v σ' F' H' (s1.trans (sFi.trans (nx.ff.trans s'))) f' k'
  · refine .inl ⟨jw.stop i Hi (sFi.trans fi.sub) (by omega), ?_⟩
    rw [List.drop_eq_nil_of_le (by omega)] at hci
    cases hci
    exact q σi Fi Hi (s1.trans sFi) fi
/-- while -/
theorem imp_whl {n : Nat} {t : T} {body : Ss} {wp : List Nat} {D : Ends} {σ : L2.St} {H : Hp} (h : rdS K pro (runS W n (.whl t body wp)) D σ H) :
    tWhile (rdT K pro (runT W t)) (rdS K pro (runB W n body)) D σ H := by
  obtain ⟨A, r, F, fl, ok, fit, hm, q⟩ := h
  unfold runS at hm
  refine ⟨fun m σi Hi => ∃ (ri : Rho) (Fi : Hp), Same F Fi ∧ Fit A ri Fi σi Hi ∧ whlD (runT W t) (runB W n body) wp m ri = some fl, ⟨n, wipeR r wp, F, Same.refl F, fit.wiped wp, hm⟩, ?_⟩
  rintro m σi Hi ⟨ri, Fi, sFi, fi, hw⟩
  cases m with
  | zero => cases hw
  | succ m =>
    unfold whlD at hw
    cases hc : runT W t ri with
    | none => rw [hc] at hw; cases hw
    | some cr =>
      obtain ⟨c, r1⟩ := cr
      rw [hc] at hw
      refine ⟨A, ri, Fi, c, r1, ok, fi, hc, fun F1 H1 s1 f1 => ?_⟩
      cases c with
      | true =>
        rw [if_pos rfl]
        refine ⟨fun σn Hn => ∃ (rn : Rho) (Fn : Hp), Same F Fn ∧ Fit A rn Fn σn Hn ∧ whlD (runT W t) (runB W n body) wp m rn = some fl, fun σn Hn g => ⟨m, Nat.lt_succ_self m, g⟩, ?_⟩
        dsimp only at hw
        cases hb : runB W n body r1 with
        | none => rw [hb] at hw; cases hw
        | some fl1 =>
          rw [hb] at hw
          refine ⟨A, r1, F1, fl1, ok, f1, hb, ?_⟩
          cases fl1 with
          | next r3 => exact fun σ' F' H' s' f' => ⟨wipeR r3 wp, F', sFi.trans (s1.trans s'), f'.wiped wp, hw⟩
          | cont r3 => exact fun σ' F' H' s' f' => ⟨wipeR r3 wp, F', sFi.trans (s1.trans s'), f'.wiped wp, hw⟩
          | brk r3 =>
            cases hw
            exact fun σ' F' H' s' f' => q σ' F' H' (sFi.trans (s1.trans s')) (f'.wiped wp)
          | ret o r3 =>
            cases hw
            exact fun v σ' F' H' s' f' k' => q v σ' F' H' (sFi.trans (s1.trans s')) f' k'
      | false =>
        rw [if_neg Bool.false_ne_true]
        cases hw
        exact q σi F1 H1 (sFi.trans s1) (f1.wiped wp)
end
end Dl

/-! D6b: dict displays, setdefault, insert, extend, pop(), steps. -/
namespace Dl
open PySem PySem.Spec PyProof.Rows L2
section
variable {K : Kw} {pro : List Nat} {W : Wd}
/-- the readings of a display's pairs -/
def tprs (K : Kw) (pro : List Nat) (W : Wd) : Es → List (TE × TE)
  | .cons k (.cons v es) => (rdE K pro (run W k), rdE K pro (run W v)) :: tprs K pro W es
  | _ => []
def evenE : Es → Bool
  | .nil => true
  | .cons _ (.cons _ es) => evenE es
  | _ => false
theorem Den2.mono {F F' : Hp} (s : Same F F') : ∀ {ds : List Dat} {ps : List (V × V)}, Den2 K F ds ps → Den2 K F' ds ps
  | [], _, h => h
  | [_], _, h => h
  | k :: v :: r, _, ⟨x, y, qs, e, h1, h2, h3⟩ => ⟨x, y, qs, e, Den.mono s k h1, Den.mono s v h2, Den2.mono s h3⟩
theorem imp_pairs : ∀ (es : Es) {A : Fr} {r : Rho} {F : Hp} {ds : List Dat} {r' : Rho} {σ : L2.St} {H : Hp} {Q : List (V × V) → Hp → Prop}, evenE es = true → Ok K pro A → Fit A r F σ H → runL W es r = some (ds, r') →
    (∀ ps F' H', Same F F' → Fit A r' F' σ H' → Den2 A.K F' ds ps → Q ps H') → tPairs (tprs K pro W es) σ H Q
  | .nil, A, r, F, ds, r', σ, H, Q, _, ok, fit, hm, q => by
    unfold runL at hm
    cases hm
    exact q [] F H (Same.refl F) fit rfl
  | .cons k .nil, A, r, F, ds, r', σ, H, Q, he, ok, fit, hm, q => by cases he
  | .cons k (.cons v es), A, r, F, ds, r', σ, H, Q, he, ok, fit, hm, q => by
    unfold runL at hm
    obtain ⟨⟨oa, r1⟩, ha, hm⟩ := bindS hm
    obtain ⟨⟨d1, r2⟩, hd1, hm⟩ := bindS hm
    obtain ⟨⟨ds1, r3⟩, hm1, hm⟩ := bindS hm
    cases hm
    unfold runL at hm1
    obtain ⟨⟨ob, r4⟩, hb, hm1⟩ := bindS hm1
    obtain ⟨⟨d2, r5⟩, hd2, hm1⟩ := bindS hm1
    obtain ⟨⟨ds2, r6⟩, hm2, hm1⟩ := bindS hm1
    cases hm1
    refine ⟨A, r, F, oa, r1, ok, fit, ha, fun x F1 H1 s1 f1 k1 => ?_⟩
    obtain ⟨F1', s1', f1', h1⟩ := f1.frz k1 hd1
    refine ⟨A, r2, F1', ob, r4, ok, f1', hb, fun y F2 H2 s2 f2 k2 => ?_⟩
    obtain ⟨F2', s2', f2', h2⟩ := f2.frz k2 hd2
    exact imp_pairs es he ok f2' hm2 fun ps F3 H3 s3 f3 d3 => q _ F3 H3 (((s1.trans s1').trans (s2.trans s2')).trans s3) f3 ⟨x, y, ps, rfl, Den.mono ((s2.trans s2').trans s3) _ h1, Den.mono s3 _ h2, d3⟩
theorem imp_dct {es : Es} {σ : L2.St} {H : Hp} {Q : VK} (he : evenE es = true) (h : rdE K pro (run W (.dct es)) σ H Q) : tDspD K (tprs K pro W es) σ H Q := by
  obtain ⟨A, r, F, o, r', ok, fit, hm, q⟩ := h
  unfold run at hm
  obtain ⟨⟨ds, r1⟩, ha, hm⟩ := bindS hm
  obtain ⟨d, hd, hm⟩ := bindS hm
  cases hm
  intro p hp
  have fp : F p = none := fit.sub.free hp
  obtain ⟨h0, io⟩ := fit.free hp
  have f0 : A.F0 p = none := fit.f0.free fp
  have nm : ¬ Mine r σ p := fun m => by
    obtain ⟨_, _, u, z⟩ := fit.mine m
    rw [hp] at z
    cases z
  have g1 : Fit A r F σ (upd H p (.dK [])) := fit.grow (New.of (Same.refl F) (fun b u e => same_upd hp b u (fit.sub b u e)) (same_upd hp) (fun _ _ e => .inl e))
  have g2 := g1.guard upd_same (fun ps z => nomatch z) fp io nm
  refine imp_pairs es he (ok.guard p (.dK [])) g2 ha fun ps F2 H2 s2 f2 d2 => ?_
  obtain ⟨u1, u2, u3, u4⟩ := f2.unguard h0 f0 io
  refine ⟨u2, F2, ds, d, u1.sub, u3, by rw [← ok.k]; exact d2, hd, fun H3 hu ow => ?_⟩
  obtain ⟨u, rfl⟩ := hu
  rw [← ok.k] at ow
  have f3 : Fit A r' F2 σ (upd H2 p u) := u1.changed (a := p) (Same.refl F2) (fun b o e => by
    rw [upd_ne (fun z => by subst z; rw [u3] at e; cases e)]
    exact u1.sub b o e) (fun b o e hb _ => by rw [upd_ne hb]; exact e) (fun _ _ e => .inl e) (u1.tab.grow (Same.refl F2) (fun P ps hP e => by rw [upd_ne (u1.tab.ne hP u2 (fun ps z => nomatch z))]; exact e) (fun b o e => .inl e)) ⟨u, upd_same⟩ (.inl h0) u4
  exact q _ F2 _ s2 f3 ⟨p, rfl, u3, h0, io, ow, u4⟩
theorem imp_dnew {σ : L2.St} {H : Hp} {Q : VK} (h : rdE K pro (run W (.dct .nil)) σ H Q) : tDNewK σ H Q := by
  obtain ⟨A, r, F, o, r', ok, fit, hm, q⟩ := h
  unfold run at hm
  obtain ⟨⟨ds, r1⟩, ha, hm⟩ := bindS hm
  obtain ⟨d, hd, hm⟩ := bindS hm
  cases hm
  unfold runL at ha
  cases ha
  cases hd
  intro p hp
  obtain ⟨F3, s3, f3, k3⟩ := fit.made (v := .ref p) (o := .fresh (.dct [] [])) (H' := upd H p (.dK [])) ⟨F, p, New.of (Same.refl F) (fun b u e => same_upd hp b u (fit.sub b u e)) (same_upd hp) (fun _ _ e => .inl e), rfl, hp, fit.sub.free hp, .dK [], [], [], upd_same, ⟨Nat.zero_le _, .inl ⟨[], rfl, rfl, rfl⟩⟩, DenL.nil, DenL.nil⟩
  exact q _ F3 _ s3 f3 k3
theorem dct_of {d : Dat} (h : isDct d = true) : ∃ ks vs, d = .dct ks vs := by
  cases d with
  | dct ks vs => exact ⟨ks, vs, rfl⟩
  | _ => cases h
theorem getV_none {k : Dat} : ∀ {ks vs : List Dat}, vs.length = ks.length → getV k ks vs = none → hasK k ks = false
  | [], vs, _, _ => rfl
  | x :: ks, [], h, _ => by cases h
  | x :: ks, v :: vs, h, g => by
    unfold getV at g
    by_cases e : eqK x k = true
    · rw [if_pos e] at g; cases g
    · rw [if_neg e] at g
      unfold hasK
      rw [List.any_cons]
      have := getV_none (by simpa using h) g
      unfold hasK at this
      rw [this]
      simpa using e
/-- d.setdefault(k, x) -/
theorem imp_setd {i : Nat} {a b : E} {σ : L2.St} {H : Hp} {Q : VK} (h : rdE K pro (run W (.setd i a b)) σ H Q) :
    tBMD K (rSetd K) (tVar i) (tCons (rdE K pro (run W a)) (tCons (rdE K pro (run W b)) tNil)) σ H Q := by
  obtain ⟨A, r, F, o, r', ok, fit, hm, q⟩ := h
  unfold run at hm
  obtain ⟨s, hs, hm⟩ := bindS hm
  dsimp only at hm
  split at hm
  · rename_i hl
    obtain ⟨⟨oa, r1⟩, ha, hm⟩ := bindS hm
    obtain ⟨⟨x, r2⟩, hd, hm⟩ := bindS hm
    obtain ⟨⟨ob, r3⟩, hb, hm⟩ := bindS hm
    obtain ⟨⟨y, r4⟩, hd2, hm⟩ := bindS hm
    obtain ⟨v, ev, _⟩ := fit.slot i s (look_some hs)
    obtain ⟨ks0, vs0, hsd⟩ := dct_of hl
    have g0 := fit.seen (look_some hs) ev
    rw [hsd, ok.k] at g0
    refine ⟨v, ev, ⟨F, ks0, vs0, g0⟩, A, r, F, oa, r1, ok, fit, ha, fun v1 F1 H1 s1 f1 k1 => ?_⟩
    obtain ⟨F1', s1', f1', h1⟩ := f1.frz k1 hd
    refine ⟨A, r2, F1', ob, r3, ok, f1', hb, fun v2 F2 H2 s2 f2 k2 => ?_⟩
    obtain ⟨F2', s2', f2', h2⟩ := f2.frz k2 hd2
    have hx := Den.mono (s2.trans s2') _ h1
    have sF := (s1.trans s1').trans (s2.trans s2')
    have fin : ∀ (ks vs : List Dat) (m : Mu), m ≠ .fz → look r4 i = some ⟨.dct ks vs, m⟩ → okey ks x = true → ks.length < sizeLine → vs.length = ks.length → (match getV x ks vs with
          | some e => some (Out.val e, r4)
          | none => some (Out.val y, r4.set i (some ⟨putD x y ks vs, m⟩))) = some (o, r') → rSetd K v [v1, v2] H2 Q := by
      intro ks vs m mz hi hok hl2 hlv hm
      have hi' := look_some hi
      obtain ⟨w, w1, w2⟩ := f2'.slot i _ hi'
      rw [ev] at w1
      cases w1
      obtain ⟨c, rfl⟩ := w2.ref mz
      obtain ⟨m1, m2, m3⟩ := w2.mine mz
      rw [ok.k] at hx h2
      refine ⟨c, v1, v2, F2', ks, vs, x, y, rfl, rfl, f2'.sub, by rw [← ok.k]; exact Seen.own m3, okey_seen hok hx, hok, h2, hl2, hlv, fun e he z dz => ?_, fun hn H' pt => ?_⟩
      · rw [he] at hm
        cases hm
        exact q z F2' H2 sF f2' (by rw [← ok.k] at dz; exact dz)
      · have hg : getV x ks vs = none := by
          cases hg : getV x ks vs with
          | none => rfl
          | some e =>
            exfalso
            clear hm
            have : ∀ {ks vs : List Dat}, getV x ks vs = some e → hasK x ks = true := by
              intro ks
              induction ks with
              | nil => intro vs h; unfold getV at h; cases h
              | cons k ks ih =>
                intro vs h
                cases vs with
                | nil => unfold getV at h; cases h
                | cons u vs =>
                  unfold getV at h
                  unfold hasK
                  rw [List.any_cons]
                  by_cases eq : eqK k x = true
                  · rw [eq]; rfl
                  · rw [if_neg eq] at h
                    have := ih h
                    unfold hasK at this
                    rw [this, Bool.or_true]
            rw [this hg] at hn
            cases hn
        rw [hg] at hm
        cases hm
        obtain ⟨u, rfl, ow⟩ := pt
        rw [← ok.k] at ow
        exact q v2 F2' _ sF (f2'.rewriteO hi' mz ev ow) (by rw [← ok.k] at h2; exact h2)
    dsimp only at hm
    split at hm
    · rename_i ks vs hi
      split at hm
      · rename_i hc
        exact fin ks vs .own (by decide) hi hc.1 hc.2.1 hc.2.2 hm
      · cases hm
    · rename_i ks vs hi
      split at hm
      · rename_i hc
        exact fin ks vs .io (by decide) hi hc.1 hc.2.1 hc.2.2 hm
      · cases hm
    · cases hm
  · cases hm
def rIns : V → List V → Hp → VK → Prop := fun x vs H Q => ∃ (l : Addr) (xs : List V) (i : Int) (y : V), x = .ref l ∧ vs = [.int i, y] ∧ H l = some (.lst xs) ∧ xs.length < sizeLine ∧ 0 ≤ i ∧ i < 2 ^ 63 ∧ Q .non (upd H l (.lst (xs.take i.toNat ++ [y] ++ xs.drop i.toNat)))
/-- xs.insert(k, x) -/
theorem imp_ins {i : Nat} {a b : E} {σ : L2.St} {H : Hp} {Q : VK} (h : rdE K pro (run W (.ins i a b)) σ H Q) :
    tBM K "list" rIns (tVar i) (tCons (rdE K pro (run W a)) (tCons (rdE K pro (run W b)) tNil)) σ H Q := by
  obtain ⟨A, r, F, o, r', ok, fit, hm, q⟩ := h
  unfold run at hm
  obtain ⟨s, hs, hm⟩ := bindS hm
  dsimp only at hm
  split at hm
  · rename_i hl
    obtain ⟨⟨oa, r1⟩, ha, hm⟩ := bindS hm
    obtain ⟨⟨k, r2⟩, hd, hm⟩ := bindS hm
    obtain ⟨⟨ob, r3⟩, hb, hm⟩ := bindS hm
    obtain ⟨⟨x, r4⟩, hd2, hm⟩ := bindS hm
    obtain ⟨v, ev, _⟩ := fit.slot i s (look_some hs)
    refine ⟨v, ev, fit.tyL hs ev hl ok.k, A, r, F, oa, r1, ok, fit, ha, fun v1 F1 H1 s1 f1 k1 => ?_⟩
    obtain ⟨F1', s1', f1', h1⟩ := f1.frz k1 hd
    refine ⟨A, r2, F1', ob, r3, ok, f1', hb, fun v2 F2 H2 s2 f2 k2 => ?_⟩
    obtain ⟨F2', s2', f2', h2⟩ := f2.frz k2 hd2
    have sF := (s1.trans s1').trans (s2.trans s2')
    have fin : ∀ (ds : List Dat) (m : Mu) (j : Int), m ≠ .fz → look r4 i = some ⟨.lst ds, m⟩ → k = .int j → ds.length < sizeLine → 0 ≤ j → j < 2 ^ 63 → o = .val .non → r' = r4.set i (some ⟨.lst (ds.take j.toNat ++ [x] ++ ds.drop j.toNat), m⟩) → rIns v [v1, v2] H2 Q := by
      rintro ds m j mz hi rfl hj j0 j1 rfl rfl
      have hi' := look_some hi
      obtain ⟨w, w1, w2⟩ := f2'.slot i _ hi'
      rw [ev] at w1
      cases w1
      obtain ⟨b, rfl⟩ := w2.ref mz
      obtain ⟨m1, m2, xs, m3, m4, m5⟩ := w2.mine mz
      have hlen := DenL.length m5
      refine ⟨b, xs, j, v2, rfl, by rw [show v1 = V.int j from h1], m3, by omega, j0, j1, ?_⟩
      have fr := f2'.rewrite (xs := xs.take j.toNat ++ [v2] ++ xs.drop j.toNat) hi' mz ev (by rw [List.length_append, List.length_append, List.length_take, List.length_drop, List.length_singleton]; omega) (DenL.app (DenL.app (DenL.take _ m5) (DenL.one h2)) (DenL.drop _ m5))
      exact q .non F2' _ sF fr rfl
    dsimp only at hm
    split at hm
    · rename_i ds j hi _ _
      split at hm
      · rename_i hz
        cases hm
        exact fin ds .own j (by decide) hi rfl hz.1 hz.2.1 hz.2.2 rfl rfl
      · cases hm
    · rename_i ds j hi _ _
      split at hm
      · rename_i hz
        cases hm
        exact fin ds .io j (by decide) hi rfl hz.1 hz.2.1 hz.2.2 rfl rfl
      · cases hm
    · cases hm
  · cases hm
/-- xs.extend(ys), ys new -/
theorem imp_ext {i : Nat} {a : E} {σ : L2.St} {H : Hp} {Q : VK} (h : rdE K pro (run W (.ext i a)) σ H Q) :
    tBM K "list" rExtend (tVar i) (tCons (rdE K pro (run W a)) tNil) σ H Q := by
  obtain ⟨A, r, F, o, r', ok, fit, hm, q⟩ := h
  unfold run at hm
  obtain ⟨s, hs, hm⟩ := bindS hm
  dsimp only at hm
  split at hm
  · rename_i hl
    obtain ⟨⟨oa, r1⟩, ha, hm⟩ := bindS hm
    obtain ⟨v, ev, _⟩ := fit.slot i s (look_some hs)
    refine ⟨v, ev, fit.tyL hs ev hl ok.k, A, r, F, oa, r1, ok, fit, ha, fun v1 F1 H1 s1 f1 k1 => ?_⟩
    have fin : ∀ (ds es : List Dat) (m : Mu), m ≠ .fz → look r1 i = some ⟨.lst ds, m⟩ → oa = .fresh (.lst es) → ds.length + es.length ≤ sizeLine → o = .val .non → r' = r1.set i (some ⟨.lst (ds ++ es), m⟩) → rExtend v [v1] H1 Q := by
      rintro ds es m mz hi rfl hj rfl rfl
      have hi' := look_some hi
      obtain ⟨w, w1, w2⟩ := f1.slot i _ hi'
      rw [ev] at w1
      cases w1
      obtain ⟨b, rfl⟩ := w2.ref mz
      obtain ⟨m1, m2, xs, m3, m4, m5⟩ := w2.mine mz
      obtain ⟨c, rfl, n1, n2, n3, ⟨zs, z1, z2, z3⟩, n5⟩ := k1
      have hlen := DenL.length m5
      have hlen2 := DenL.length z3
      refine ⟨b, c, xs, zs, rfl, rfl, m3, z1, by omega, ?_⟩
      have fr := f1.rewrite (xs := xs ++ zs) hi' mz ev (by rw [List.length_append]; omega) (DenL.app m5 z3)
      exact q .non F1 _ s1 fr rfl
    dsimp only at hm
    split at hm
    · rename_i ds es hi
      split at hm
      · rename_i hz
        cases hm
        exact fin ds es .own (by decide) hi rfl hz rfl rfl
      · cases hm
    · rename_i ds es hi
      split at hm
      · rename_i hz
        cases hm
        exact fin ds es .io (by decide) hi rfl hz rfl rfl
      · cases hm
    · cases hm
  · cases hm
/-- xs.pop() -/
theorem imp_pop0 {i : Nat} {σ : L2.St} {H : Hp} {Q : VK} (h : rdE K pro (run W (.pop0 i)) σ H Q) : tBM0 K "list" rPop (tVar i) σ H Q := by
  obtain ⟨A, r, F, o, r', ok, fit, hm, q⟩ := h
  unfold run at hm
  obtain ⟨s, hs, hm⟩ := bindS hm
  obtain ⟨v, ev, _⟩ := fit.slot i s (look_some hs)
  have fin : ∀ (ds : List Dat) (m : Mu) (x : Dat), m ≠ .fz → s = ⟨.lst ds, m⟩ → ds[ds.length - 1]? = some x → o = .val x → r' = r.set i (some ⟨.lst ds.dropLast, m⟩) → tBM0 K "list" rPop (tVar i) σ H Q := by
    rintro ds m x mz rfl hx rfl rfl
    have hi' := look_some hs
    refine ⟨v, ev, fit.tyL hs ev rfl ok.k, ?_⟩
    obtain ⟨w, w1, w2⟩ := fit.slot i _ hi'
    rw [ev] at w1
    cases w1
    obtain ⟨b, rfl⟩ := w2.ref mz
    obtain ⟨m1, m2, xs, m3, m4, m5⟩ := w2.mine mz
    have hlen := DenL.length m5
    rw [hlen] at hx
    obtain ⟨y, hy, dy⟩ := DenL.getD m5 hx
    refine ⟨b, xs, y, rfl, rfl, m3, hy, ?_⟩
    have e1 : ds.dropLast = ds.take (ds.length - 1) := List.dropLast_eq_take
    have e2 : xs.dropLast = xs.take (ds.length - 1) := by rw [List.dropLast_eq_take, hlen]
    have fr := fit.rewrite (xs := xs.dropLast) (ds := ds.dropLast) hi' mz ev (by rw [List.length_dropLast]; omega) (by rw [e1, e2]; exact DenL.take _ m5)
    exact q y F _ (Same.refl F) fr dy
  split at hm
  · obtain ⟨x, hx, hm⟩ := bindS hm
    cases hm
    exact fin _ .own x (by decide) rfl hx rfl rfl
  · obtain ⟨x, hx, hm⟩ := bindS hm
    cases hm
    exact fin _ .io x (by decide) rfl hx rfl rfl
  · cases hm
/-- x[lo::st] -/
theorem imp_step {a b : E} {lo : Oe} {σ : L2.St} {H : Hp} {Q : VK} (h : rdE K pro (run W (.step a lo b)) σ H Q) :
    tStp K (rdE K pro (run W a)) (rdO K pro (runO W lo)) (rdE K pro (run W b)) σ H Q := by
  obtain ⟨A, r, F, o, r', ok, fit, hm, q⟩ := h
  unfold run at hm
  obtain ⟨⟨oa, r1⟩, ha, hm⟩ := bindS hm
  obtain ⟨⟨l, r2⟩, hl, hm⟩ := bindS hm
  obtain ⟨⟨ob, r3⟩, hb, hm⟩ := bindS hm
  obtain ⟨d, hd, hm⟩ := bindS hm
  split at hm
  · rename_i k hk
    obtain ⟨o3, ho, hm⟩ := bindS hm
    cases hm
    refine ⟨A, r, F, oa, _, ok, fit, ha, fun v1 F1 H1 s1 f1 k1 => ?_⟩
    obtain ⟨F1', s1', f1', h1⟩ := f1.hold k1
    refine ⟨A, r1, F1', l, _, ok, f1', hl, fun F2 H2 s2 f2 => ?_⟩
    refine ⟨A, r2, F2, ob, _, ok, f2, hb, fun v3 F3 H3 s3 f3 k3 => ?_⟩
    obtain ⟨F3', s3', f3', h3⟩ := f3.hold k3
    have g1 := Held.seen f3' (h1.mono ((s2.trans s3).trans s3')) hd
    have g3 := Held.seen f3' h3 hk
    rw [ok.k] at g1
    refine ⟨k, g3, F3', d, _, f3'.sub, g1, ho, fun v H' nw => ?_⟩
    rw [← ok.k] at nw
    obtain ⟨F4, s4, f4, k4⟩ := f3'.made nw
    exact q v F4 H' ((((s1.trans s1').trans (s2.trans s3)).trans s3').trans s4) f4 k4
  · cases hm
/-- f() -/
theorem imp_call0 {f : Str} {np : Nat} {σ : L2.St} {H : Hp} {Q : VK} (hio : W.io f = some none) (hnp : ∀ ds x, W.phi f ds = some x → ds.length = np)
    (h : rdE K pro (run W (.call0 f)) σ H Q) : tCall (spD K none np (W.phi f)) [] E0 tNil σ H Q := by
  obtain ⟨A, r, F, o, r', ok, fit, hm, q⟩ := h
  unfold run at hm
  obtain ⟨io', hi, hm⟩ := bindS hm
  rw [hio] at hi
  cases hi
  rw [if_pos rfl] at hm
  obtain ⟨⟨o2, d⟩, hp, hm⟩ := bindS hm
  cases hm
  show spD K none np (W.phi f) ([] ++ []) H Q E0
  rw [List.append_nil, ← ok.k]
  have hl := hnp [] _ hp
  refine ⟨F, [], o, d, hp, ⟨fit.sub, hl, hl, fun i x v hx hv _ => by simp at hx, (fun _ _ _ _ _ z => nomatch z), fit.tab⟩, fun v F' H' po => ?_⟩
  have nio : ∀ b, ¬ IoA none [] b := fun b z => by obtain ⟨i, e, _⟩ := z; cases e
  have nw : New A.K F H F' H' := ⟨po.ff, po.fh, fun b u e nt => po.keep b u e nt (nio b), po.newf, fun _ => po.tab⟩
  exact q v F' H' po.ff (fit.grow nw) (back_res fit po.res fun _ m => m)
/-! ### a look at everything, that changes nothing -/
theorem settle_slots {A : Fr} {F H : Hp} {σ : L2.St} : ∀ (r : Rho), (∀ (i : Nat) (s : Sl), r[i]? = some (some s) → ∃ v, σ[i]? = some (some v) ∧ SlotOk A F H s v) → ∀ (m : Nat), m ≤ r.length → Same F H → ∃ G, Same F G ∧ Same G H ∧ (∀ (i : Nat) (s : Sl), i < m → r[i]? = some (some s) → ∃ v, σ[i]? = some (some v) ∧ Den A.K G s.d v) ∧ ∀ b o, G b = some o → F b = some o ∨ OwnO o
  | r, hs, 0, _, sm => ⟨F, Same.refl F, sm, fun i s hi => absurd hi (Nat.not_lt_zero _), fun _ _ e => .inl e⟩
  | r, hs, m + 1, hm, sm => by
    obtain ⟨G, g1, g2, g3, g4⟩ := settle_slots r hs m (by omega) sm
    cases hr : r[m]? with
    | none =>
      rw [List.getElem?_eq_none_iff] at hr
      omega
    | some o =>
      cases o with
      | none =>
        refine ⟨G, g1, g2, fun i s hi e => ?_, g4⟩
        rcases Nat.lt_succ_iff_lt_or_eq.mp hi with hi | rfl
        · exact g3 i s hi e
        · rw [hr] at e; cases e
      | some t =>
        obtain ⟨v, e1, e2⟩ := hs m t hr
        by_cases hz : t.m = .fz
        · refine ⟨G, g1, g2, fun i s hi e => ?_, g4⟩
          rcases Nat.lt_succ_iff_lt_or_eq.mp hi with hi | rfl
          · exact g3 i s hi e
          · rw [hr] at e
            cases e
            unfold SlotOk at e2
            rw [hz] at e2
            exact ⟨v, e1, Den.mono g1 _ e2⟩
        · obtain ⟨a, rfl⟩ := e2.ref hz
          obtain ⟨_, _, m3⟩ := e2.mine hz
          obtain ⟨G', t1, t2, t3, t4⟩ := settle_in g1 g2 m3
          refine ⟨G', g1.trans t1, t2, fun i s hi e => ?_, fun b o e => (t4 b o e).elim (g4 b o) .inr⟩
          rcases Nat.lt_succ_iff_lt_or_eq.mp hi with hi | rfl
          · obtain ⟨u, u1, u2⟩ := g3 i s hi e
            exact ⟨u, u1, Den.mono t1 _ u2⟩
          · rw [hr] at e
            cases e
            exact ⟨_, e1, t3⟩
theorem denL_flat {F G : Hp} : ∀ {ds : List Dat} {xs : List V}, ds.all flatD = true → DenL K F ds xs → DenL K G ds xs
  | [], _, _, h => h
  | d :: ds, _, f, ⟨v, vs, e, h, t⟩ => by
    rw [List.all_cons, Bool.and_eq_true] at f
    exact ⟨v, vs, e, flat_den f.1 h, denL_flat f.2 t⟩
theorem fzAll_get {r : Rho} {i : Nat} {s : Sl} (h : (fzAll r)[i]? = some (some s)) : ∃ t, r[i]? = some (some t) ∧ s = ⟨t.d, .fz⟩ := by
  unfold fzAll at h
  rw [List.getElem?_map] at h
  cases hr : r[i]? with
  | none => rw [hr] at h; cases h
  | some o =>
    cases o with
    | none => rw [hr] at h; cases h
    | some t =>
      rw [hr] at h
      exact ⟨t, rfl, (Option.some.inj (Option.some.inj h)).symm⟩
theorem imp_bor {e : E} {σ : L2.St} {H : Hp} {Q : VK} (h : rdE K pro (run W (.bor e)) σ H Q) : rdE K pro (run W e) σ H Q := by
  obtain ⟨A, r, F, o, r', ok, fit, hm, q⟩ := h
  unfold run at hm
  obtain ⟨⟨o1, r1⟩, ha, hm⟩ := bindS hm
  obtain ⟨G, g1, g2, g3, g4⟩ := settle_slots (A := A) r fit.slot r.length (Nat.le_refl _) fit.sub
  have ft : Fit ⟨A.K, noT A.K H, G, fun _ => False, A.pro⟩ (fzAll r) G σ H := by
    refine ⟨g2, fun b o e _ => (noT_some e).2, fun b o e => .inl e, Same.refl G, fun b z => z.elim, fun i s e => ?_, fun i j s t a n e1 m1 => ?_, fit.pro, by unfold fzAll; rw [List.length_map]; exact fit.len, fit.tab.more g1 g2 g4, fun P hP => ⟨noT_tb hP, fun z => z⟩⟩
    · obtain ⟨t, ht, rfl⟩ := fzAll_get e
      obtain ⟨v, v1, v2⟩ := g3 i t (List.getElem?_eq_some_iff.mp ht).1 ht
      exact ⟨v, v1, v2⟩
    · obtain ⟨t, ht, rfl⟩ := fzAll_get e1
      exact absurd rfl m1
  refine ⟨⟨A.K, noT A.K H, G, fun _ => False, A.pro⟩, fzAll r, G, o1, r1, ⟨ok.k, ok.p⟩, ft, ha, fun v F' H' s' f' k' => ?_⟩
  have nf : ∀ b o, F' b = some o → G b = some o ∨ H b = none := fun b o e => by
    rcases f'.newf b o e with z | z
    · exact .inl z
    · have z : noT A.K H b = none := z
      cases ht : A.K.G.tb b with
      | false => rw [noT_eq ht] at z; exact .inr z
      | true => rw [(f'.tab b ht).1] at e; cases e
  obtain ⟨F2, nw, sw⟩ := New.thin (K := A.K) fit.sub g1 g4 s' f'.sub (fun b u e nt => f'.keep b u ((noT_eq nt).trans e) (fun z => z)) nf f'.tab
  have gr : Fit A r F2 σ H' := fit.grow nw
  dsimp only at hm
  split at hm
  · rename_i xs
    split at hm
    · rename_i fl
      cases hm
      obtain ⟨a, rfl, a1, a2, a3, ⟨ws, b1, b2, b3⟩, a5⟩ := k'
      have hn : H a = none := by
        have a2 : noT A.K H a = none := a2
        cases ht : A.K.G.tb a with
        | false => rw [noT_eq ht] at a2; exact a2
        | true =>
          obtain ⟨_, ps, z, _⟩ := f'.tab a ht
          rw [b1] at z
          cases z
      have fn : F2 a = none := by
        cases z : F2 a with
        | none => rfl
        | some u =>
          rw [sw _ _ z] at a1
          cases a1
      refine q _ F2 H' nw.ff gr ⟨a, rfl, fn, (fit.free hn).1, (fit.free hn).2, ⟨ws, b1, b2, denL_flat fl b3⟩, fun m => ?_⟩
      obtain ⟨_, _, u, z⟩ := fit.mine m
      rw [hn] at z
      cases z
    · cases hm
  · rename_i d
    split at hm
    · rename_i fl
      cases hm
      exact q _ F2 H' nw.ff gr (flat_den fl k')
    · cases hm
  · cases hm
theorem jw_rangeC {F : Hp} {lo c : Int} {n : Nat} (l : n ≤ sizeLine) : JW K F (Itc lo c n) (rangeC lo c n) where
  small := by
    unfold rangeC
    rw [List.length_map, List.length_range]
    exact l
  go := fun i H s hi => by
    unfold rangeC at hi
    rw [List.length_map, List.length_range] at hi
    exact hi
  yld := fun i d H v H' s hd y => by
    obtain ⟨e, rfl⟩ := y
    subst e
    unfold rangeC at hd
    rw [List.getElem?_map] at hd
    cases hr : (List.range n)[i]? with
    | none => rw [hr] at hd; cases hd
    | some k =>
      rw [hr] at hd
      cases hd
      obtain ⟨h1, h2⟩ := List.getElem?_eq_some_iff.mp hr
      rw [List.getElem_range] at h2
      subst h2
      exact ⟨F, New0.refl s, rfl⟩
  stop := fun i H s hi => by
    unfold rangeC at hi
    rw [List.length_map, List.length_range] at hi
    exact Nat.le_of_eq hi
theorem imp_rng3 {es : Es} {σ : L2.St} {H : Hp} {R : It → Hp → Prop} (h : rdI K pro (runI W (.rng3 es)) σ H R) : iRng3 (rdL K pro (runL W es)) σ H R := by
  obtain ⟨A, r, F, ds, r', ok, fit, hm, q⟩ := h
  unfold runI at hm
  obtain ⟨⟨es', r1⟩, ha, hm⟩ := bindS hm
  dsimp only at hm
  split at hm
  · rename_i i j c
    obtain ⟨n, hn, hm⟩ := bindS hm
    cases hm
    unfold rngN at hn
    split at hn
    · rename_i hz
      cases hn
      refine ⟨A, r, F, _, r', ok, fit, ha, fun vs F1 H1 s1 f1 k1 => ?_⟩
      obtain ⟨v1, w1, rfl, d1, k1⟩ := k1
      obtain ⟨v2, w2, rfl, d2, k1⟩ := k1
      obtain ⟨v3, w3, rfl, d3, k1⟩ := k1
      cases k1
      cases d1
      cases d2
      cases d3
      exact ⟨i, j, c, _, rfl, ⟨hz.1, hz.2.1, hz.2.2.1, by rw [Int.toNat_of_nonneg hz.2.2.2.2]⟩, q _ F1 H1 s1 f1 (jw_rangeC hz.2.2.2.1)⟩
    · cases hn
  · cases hm
end
end Dl

/-! D6c: functions that are made within a def and handed about. -/
namespace Dl
open PySem PySem.Spec PyProof.Rows L2 LamX NdefX

/-- a made function: its name, its names' kinds, the cells that it captured, its code object, its record -/
structure CF where
  qual : Str
  scope : Scope
  cl : List (Str × Addr)
  c : Addr
  fd : Value → Value → Value → FuncData
def CloO (f : Addr) (F : CF) : HO := .ext fun h => ∃ (od : Option Addr) (sl : Array (Option Value)) (doc pm ctv : Value), h.get? f = some (⟨.type "function", od, .func (F.fd doc pm ctv), sl⟩ : Obj)
abbrev CF.ofDef (F : NF) : CF := ⟨F.qual, F.scope, F.cl, F.c, F.fd⟩
abbrev CF.ofLam (qual : Str) (params : Arguments) (body : Expr) (scope : Scope) (cl : List (Str × Addr)) (c : Addr) : CF := ⟨qual, scope, cl, c, fun _ pm ctv => PySem.W.kla_fn "<lambda>" qual params body scope cl pm (.ref c) ctv⟩
theorem cloO_ne {f : Addr} {F : CF} (ps : Array Value) : CloO f F ≠ .tbl ps := fun z => by
  unfold CloO at z
  cases z
theorem cloO_at {P : Program} {w : World} {H : Hp} {h : Heap} {f : Addr} {F : CF} (hok : HOk P w H h) (e : H f = some (CloO f F)) : ∃ (od : Option Addr) (sl : Array (Option Value)) (doc pm ctv : Value), h.get? f = some (⟨.type "function", od, .func (F.fd doc pm ctv), sl⟩ : Obj) := by
  obtain ⟨z, _, _⟩ := hok f _ e
  exact z
/-- how the heap looks when a function was made: its code object was in the table P, or is new there -/
inductive Made (H : Hp) (P : Addr) (ps : Array Value) (pos : Pos) (q : Str) (f c' : Addr) (o : HO) : Hp → Prop
  | hit : codeAmong pos ps.toList = some (.ref c') → H f = none → Made H P ps pos q f c' o (upd H f o)
  | new : H c' = none → H f = none → f ≠ c' → Made H P ps pos q f c' o (upd (upd (upd H P (.tbl (ps ++ #[rawInt pos.line, rawInt pos.col, .ref c']))) c' (CodeO c' q)) f o)
section
variable {X : Cx} {pins : List (Addr × Obj)} {σ : L2.St} {H : Hp} {s : Shared}
theorem inv_clo {F : CF} {o : Obj} {t' : Nat} {doc pm ctv : Value} (I : Inv X pins σ H s) (ho : o = { cls := .type "function", data := .func (F.fd doc pm ctv) }) :
    Inv X pins σ (upd H s.heap.objs.size (CloO s.heap.objs.size F)) { s with heap := s.heap.push o, toks := t' } := by
  subst ho
  refine I.laid (a := s.heap.objs.size) (fun b u e => Heap.get?_push_of_some _ e) (Nat.le_refl _) ?_
  have e : (s.heap.push ({ cls := .type "function", data := .func (F.fd doc pm ctv) } : Obj)).get? s.heap.objs.size = some ({ cls := .type "function", data := .func (F.fd doc pm ctv) } : Obj) := Heap.get?_push_size _ rfl
  exact ⟨⟨_, _, doc, pm, ctv, e⟩, ⟨_, e⟩, fun h1 h2 ⟨od, sl, d, p, t, z⟩ st => ⟨od, sl, d, p, t, st _ z⟩⟩
/-- a nested def's object -/
theorem mk_def {c P : Addr} {ps : Array Value} {name : Str} {params : Arguments} {body : List Stmt} {scope : Scope} {pos : Pos} {E : Value → Shared → Prop} {Q : Value → Shared → Prop} (I : Inv X pins σ H s) (TB : TabB X.base X.mg c P) (hcode : X.env.code = .ref c)
    (hP : H P = some (.tbl ps)) (ht : TriplesOk ps.toList) (ha : ∀ cv, codeAmong pos ps.toList = some cv → ∃ c', cv = .ref c') (hfree : ∀ y ∈ scope.names, y.2 = .free → ∃ c, X.env.cells.lookup y.1 = some c)
    (h : ∀ (f c' : Addr) (H1 : Hp) (s' : Shared), Made H P ps pos (X.env.qual ++ name) f c' (CloO f (CF.ofDef ⟨name, X.env.qual ++ name, params, body, scope, cloFrom X.env.cells scope.names [], c'⟩)) H1 → Inv X pins σ H1 s' → Q (.ref f) s') :
    wpAny (model X.prog X.w) X.A (makeFunction name (X.env.qual ++ name) params (.stmts body) scope X.env [] [] [] pos pos.line) Q E s := by
  have bP : s.heap.BuiltinsAt X.mg P := TB.bm.keeps I.bk
  have hP' : s.heap.get? P = some { cls := .none, data := .fields ps } := I.hok P _ hP
  cases hc : codeAmong pos ps.toList with
  | none =>
    refine PySem.W.makeFunction_K (mg := X.mg) (c := c) (P := P) (ps := ps) (closure_ok hfree) I.ok.glob (I.mod.glob.keeps I.bk) hcode (TB.code.keeps I.bk) hP' ht hc TB.gP bP fun c' ctv doc h' tk hx hge hlt hrec htb => ?_
    obtain ⟨c2, oc, vs, t, e2, hoc, hd, hv⟩ := hrec
    cases e2
    have nC : H c' = none := I.hok.fresh hge
    have I1 := inv_table (t' := tk) (more := #[rawInt pos.line, rawInt pos.col, .ref c']) (h' := h') I hP (fun b o hb e => hx b o hb e) htb hge ⟨oc, vs, t, hoc, hd, hv⟩
    have I2 := inv_clo (F := CF.ofDef ⟨name, X.env.qual ++ name, params, body, scope, cloFrom X.env.cells scope.names [], c'⟩) (t' := tk) (doc := doc) (pm := (X.mg "__name__").getD .none) (ctv := ctv) I1 rfl
    exact h h'.objs.size c' _ _ (.new nC (I.hok.fresh (Nat.le_trans hge (Nat.le_of_lt hlt))) (Nat.ne_of_gt hlt)) I2
  | some cv =>
    obtain ⟨c', e⟩ := ha cv hc
    subst e
    refine PySem.W.makeFunction_hit (mg := X.mg) (c := c) (P := P) (ps := ps) (closure_ok hfree) I.ok.glob (I.mod.glob.keeps I.bk) hcode (TB.code.keeps I.bk) hP' ht hc bP fun ctv doc h' tk hx hsz => ?_
    have I1 : Inv X pins σ H { s with heap := h', toks := tk } := I.kept hx
    have nF : H h'.objs.size = none := I1.hok.fresh (Nat.le_refl _)
    have I2 := inv_clo (F := CF.ofDef ⟨name, X.env.qual ++ name, params, body, scope, cloFrom X.env.cells scope.names [], c'⟩) (t' := tk) (doc := doc) (pm := (X.mg "__name__").getD .none) (ctv := ctv) I1 rfl
    exact h h'.objs.size c' _ _ (.hit hc nF) I2
/-- a lambda's object -/
theorem mk_lam {c P : Addr} {ps : Array Value} {params : Arguments} {body : Expr} {scope : Scope} {pos : Pos} {E : Value → Shared → Prop} {Q : Value → Shared → Prop} (I : Inv X pins σ H s) (TB : TabB X.base X.mg c P) (hcode : X.env.code = .ref c)
    (hP : H P = some (.tbl ps)) (ht : TriplesOk ps.toList) (ha : ∀ cv, codeAmong pos ps.toList = some cv → ∃ c', cv = .ref c') (hdef : defaultsOf params X.env = ([], [])) (hfree : ∀ y ∈ scope.names, y.2 = .free → ∃ c, X.env.cells.lookup y.1 = some c)
    (h : ∀ (f c' : Addr) (H1 : Hp) (s' : Shared), Made H P ps pos (X.env.qual ++ "<lambda>") f c' (CloO f (CF.ofLam (X.env.qual ++ "<lambda>") params body scope (cloFrom X.env.cells scope.names []) c')) H1 → Inv X pins σ H1 s' → Q (.ref f) s') :
    wpAny (model X.prog X.w) X.A (eval (.Lambda params body scope pos) X.env) Q E s := by
  refine PySem.W.kla_eval hdef ?_
  have bP : s.heap.BuiltinsAt X.mg P := TB.bm.keeps I.bk
  have hP' : s.heap.get? P = some { cls := .none, data := .fields ps } := I.hok P _ hP
  cases hc : codeAmong pos ps.toList with
  | none =>
    refine PySem.W.kla_makeFunction (mg := X.mg) (c := c) (P := P) (ps := ps) (closure_ok hfree) I.ok.glob (I.mod.glob.keeps I.bk) hcode (TB.code.keeps I.bk) hP' ht hc TB.gP bP fun c' ctv h' tk hx hge hlt hrec htb => ?_
    obtain ⟨c2, oc, vs, t, e2, hoc, hd, hv⟩ := hrec
    cases e2
    have nC : H c' = none := I.hok.fresh hge
    have I1 := inv_table (t' := tk) (more := #[rawInt pos.line, rawInt pos.col, .ref c']) (h' := h') I hP (fun b o hb e => hx b o hb e) htb hge ⟨oc, vs, t, hoc, hd, hv⟩
    have I2 := inv_clo (F := CF.ofLam (X.env.qual ++ "<lambda>") params body scope (cloFrom X.env.cells scope.names []) c') (t' := tk) (doc := .none) (pm := (X.mg "__name__").getD .none) (ctv := ctv) I1 rfl
    exact h h'.objs.size c' _ _ (.new nC (I.hok.fresh (Nat.le_trans hge (Nat.le_of_lt hlt))) (Nat.ne_of_gt hlt)) I2
  | some cv =>
    obtain ⟨c', e⟩ := ha cv hc
    subst e
    refine PySem.W.kla_makeFunctionHit (mg := X.mg) (c := c) (P := P) (ps := ps) (closure_ok hfree) I.ok.glob (I.mod.glob.keeps I.bk) hcode (TB.code.keeps I.bk) hP' ht hc bP fun ctv h' tk hx hsz => ?_
    have I1 : Inv X pins σ H { s with heap := h', toks := tk } := I.kept hx
    have nF : H h'.objs.size = none := I1.hok.fresh (Nat.le_refl _)
    have I2 := inv_clo (F := CF.ofLam (X.env.qual ++ "<lambda>") params body scope (cloFrom X.env.cells scope.names []) c') (t' := tk) (doc := .none) (pm := (X.mg "__name__").getD .none) (ctv := ctv) I1 rfl
    exact h h'.objs.size c' _ _ (.hit hc nF) I2
end
/-- .. as a frame sees it -/
theorem Made.fit {K : Kw} {F H H1 : Hp} {P : Addr} {ps : Array Value} {pos : Pos} {q : Str} {f c' : Addr} {CFn : CF} (m : Made H P ps pos q f c' (CloO f CFn) H1) (sm : Same F H) (t : TabsK K F H) (hP : K.G.tb P = true) (hps : H P = some (.tbl ps)) (hn : K.G.nm pos.line pos.col = q) :
    ∃ F', New K F H F' H1 ∧ F' f = some (CloO f CFn) ∧ F' c' = some (CodeO c' q) := by
  obtain ⟨fP, ps', h2, h3, h4⟩ := t P hP
  rw [hps] at h2
  cases h2
  cases m with
  | hit hc hf =>
    obtain ⟨c2, e2, k2⟩ := h4 pos _ hc
    cases e2
    rw [hn] at k2
    have ff : F f = none := sm.free hf
    refine ⟨upd F f (CloO f CFn), New.of (same_upd ff) (fun b o e => ?_) (same_upd hf) (fun b o e => ?_), upd_same, same_upd ff _ _ k2⟩
    · by_cases hb : b = f
      · subst hb
        rw [upd_same] at e ⊢
        exact e
      · rw [upd_ne hb] at e ⊢
        exact sm b o e
    · by_cases hb : b = f
      · subst hb
        exact .inr hf
      · rw [upd_ne hb] at e
        exact .inl e
  | new hc hf ne =>
    have ff : F f = none := sm.free hf
    have fc : F c' = none := sm.free hc
    have nPc : P ≠ c' := ne_of_none hps hc
    have nPf : P ≠ f := ne_of_none hps hf
    have fc2 : upd F c' (CodeO c' q) f = none := by rw [upd_ne ne]; exact ff
    have sF : Same F (upd (upd F c' (CodeO c' q)) f (CloO f CFn)) := (same_upd fc).trans (same_upd fc2)
    have get : ∀ {b o}, upd (upd F c' (CodeO c' q)) f (CloO f CFn) b = some o → (b = f ∧ o = CloO f CFn) ∨ (b = c' ∧ o = CodeO c' q) ∨ (b ≠ f ∧ b ≠ c' ∧ F b = some o) := fun {b o} e => by
      by_cases h1 : b = f
      · subst h1
        rw [upd_same] at e
        cases e
        exact .inl ⟨rfl, rfl⟩
      · rw [upd_ne h1] at e
        by_cases h2 : b = c'
        · subst h2
          rw [upd_same] at e
          cases e
          exact .inr (.inl ⟨rfl, rfl⟩)
        · rw [upd_ne h2] at e
          exact .inr (.inr ⟨h1, h2, e⟩)
    have code : upd (upd F c' (CodeO c' q)) f (CloO f CFn) c' = some (CodeO c' q) := by rw [upd_ne (Ne.symm ne), upd_same]
    have hH : ∀ {b o}, b ≠ P → H b = some o → upd (upd (upd H P (.tbl (ps ++ #[rawInt pos.line, rawInt pos.col, .ref c']))) c' (CodeO c' q)) f (CloO f CFn) b = some o := fun {b o} h1 e => by
      rw [upd_ne (ne_of_none e hf), upd_ne (ne_of_none e hc), upd_ne h1]
      exact e
    refine ⟨upd (upd F c' (CodeO c' q)) f (CloO f CFn), ⟨sF, fun b o e => ?_, fun b o e nt => hH (fun z => by rw [z, hP] at nt; cases nt) e, fun b o e => ?_, fun _ P' hP' => ?_⟩, upd_same, code⟩
    · rcases get e with ⟨rfl, rfl⟩ | ⟨rfl, rfl⟩ | ⟨h1, h2, h3⟩
      · exact upd_same
      · rw [upd_ne (Ne.symm ne), upd_same]
      · exact hH (fun z => by rw [z, fP] at h3; cases h3) (sm _ _ h3)
    · rcases get e with ⟨rfl, _⟩ | ⟨rfl, _⟩ | ⟨_, _, h3⟩
      · exact .inr hf
      · exact .inr hc
      · exact .inl h3
    · obtain ⟨f1, qs, f2, f3, f4⟩ := t P' hP'
      have n1 : P' ≠ f := ne_of_none f2 hf
      have n2 : P' ≠ c' := ne_of_none f2 hc
      refine ⟨by rw [upd_ne n1, upd_ne n2]; exact f1, ?_⟩
      by_cases hb : P' = P
      · subst hb
        rw [hps] at f2
        cases f2
        have eL : (ps ++ #[rawInt pos.line, rawInt pos.col, .ref c']).toList = ps.toList ++ [rawInt pos.line, rawInt pos.col, .ref c'] := by simp
        refine ⟨_, by rw [upd_ne n1, upd_ne n2, upd_same], by rw [eL]; exact PySem.TriplesOk_snoc _ _ _ _ f3, fun p' cv hcv => ?_⟩
        rw [eL] at hcv
        rcases among_app2 _ f3 hcv with z | ⟨z, z1, z2⟩
        · obtain ⟨c0, e1, e2⟩ := f4 p' cv z
          exact ⟨c0, e1, sF _ _ e2⟩
        · refine ⟨c', z, ?_⟩
          rw [← z1, ← z2, hn]
          exact code
      · exact ⟨qs, hH hb f2, f3, fun p' cv hcv => by
          obtain ⟨c0, e1, e2⟩ := f4 p' cv hcv
          exact ⟨c0, e1, sF _ _ e2⟩⟩
/-! ### what a function promises -/
/-- sp ws, ws what its captured cells hold at the call -/
structure COk (P : Program) (w : World) (K : PySem.W.Frag) (mg : Str → Option Value) (base : Heap) (k : Nat) (f : Addr) (F : CF) (fr : List Str) (sp : List (Option V) → Sp) : Prop where
  run : ∀ (A : Around) (outer : List Env) (s : Shared) (H : Hp) (us : List Value) (vs : List V) (ws : List (Option V)) (Q : VK) (E : XK), Room k A → Env0 P w K mg base A outer s H → H f = some (CloO f F) → H F.c = some (CodeO F.c F.qual) →
    CellsAt F.cl fr ws s.heap H → Vals vs us → sp ws vs H Q E → codeAny (model P w) A (.call (.ref f) ⟨us, []⟩) (CR CX0 outer P w H s Q E) s
theorem cok_def {P : Program} {w : World} {K : PySem.W.Frag} {mg : Str → Option Value} {base : Heap} {k : Nat} {f : Addr} {F : NF} {ps fr : List Str} {sp : List (Option V) → Sp} (h : NOk P w K mg base CX0 k f F ps fr sp) : COk P w K mg base k f (CF.ofDef F) fr sp := ⟨fun A outer s H us vs ws Q E => h.run A outer s H us vs ws Q E⟩
section
variable {P : Program} {w : World} {K : PySem.W.Frag} {mg : Str → Option Value} {base : Heap} {N ps fr : List Str} {F : NF} {body : Expr} {f : Addr} {k : Nat} {sp : List (Option V) → Sp}
/-- a lambda by its body (F tells its words, but for the body) -/
theorem cok_lam (S : NScope N ps fr F.scope) (hb : ∀ (pm ctv : Value) (us : List Value), us.length = ps.length → bindArgs (PySem.W.kla_fn "<lambda>" F.qual F.params body F.scope F.cl pm (.ref F.c) ctv) ⟨us, []⟩ = pure (ps.zip us)) (len : ∀ ws vs H Q E, sp ws vs H Q E → vs.length = ps.length)
    (hbody : ∀ (A : Around) (outer : List Env) (s : Shared) (H : Hp) (vs : List V) (ws : List (Option V)) (Q : VK) (E : XK), Room k (A.deeper (envF F f s.heap.objs.size)) → ws.length = fr.length → sp ws vs H Q E →
      ∃ t, PE (ncx CX0 P w K mg base N F f A outer s H E) body t ∧ t (startF N vs ws) H Q) :
    COk P w K mg base (k + 1) f (CF.ofLam F.qual F.params body F.scope F.cl F.c) fr sp := by
  refine ⟨fun A outer s H us vs ws Q E hr e0 hf hc C r hsp => ?_⟩
  have hl := len _ _ _ _ _ hsp
  have lim : s.heap.NoLimit := e0.mod.nolimit.keeps fun b o e => (e0.bs b o e).1
  obtain ⟨od, sl, doc, pm, ctv, ho⟩ := cloO_at e0.hok hf
  refine PySem.W.kla_callFunE (body := body) hr.depth ho rfl S.co S.gen rfl (codeO_at e0.hok hc) ?_
  rw [hb pm ctv us (by rw [← r.length]; exact hl)]
  refine wpAny_pure (wpAny_newFunctionEnv S.nocell (fun ⟨n, _⟩ hy => S.par n (List.of_mem_zip hy).1) (fun h₁ hns hsb => ⟨lim.fresh _ hsb, ?_⟩) S.kind)
  show codeAny _ _ (.expr body (envF F f s.heap.objs.size)) _ _
  have kp : ∀ b o, s.heap.get? b = some o → h₁.get? b = some o := fun b o e => hsb.extBut b o (Nat.ne_of_lt (Heap.lt_size e)) (Heap.get?_push_of_some _ e)
  obtain ⟨t, ht, hq⟩ := hbody A outer s H vs ws Q E (hr.deeper _) C.len hsp
  have I : Inv (ncx CX0 P w K mg base N F f A outer s H E) [] (startF N vs ws) H { s with heap := h₁, toks := s.toks + (ps.zip us).length } := inv_startN S hr.hd e0 hl r C hns kp
  refine PySem.W.kla_codeExpr (wpAny_mono (ht.run [] _ (startF N vs ws) H Q I hq) (fun v s' hq => ?_) fun e s' hq => hq)
  obtain ⟨w', H', J, rv, q⟩ := hq
  exact ⟨w', H', J.os, J.bare, J.base, J.hok, rv, q⟩
end
/-! ### calls -/
section
variable {X : Cx} {pins : List (Addr × Obj)} {σ : L2.St} {H : Hp} {s : Shared} {cl : List (Str × Addr)} {fr : List Str} {ws : List (Option V)}
/-- cells that a def's frame made are no frames -/
theorem cells_fs (I : Inv X pins σ H s) {y : Str} {c : Addr} (hf : X.fn y = true) (e : X.env.cells.lookup y = some c) : c ∉ frs X.stack := fun hb => by
  rcases List.mem_cons.mp (I.stkSub c hb) with z | z
  · exact I.cne y c e z
  · obtain ⟨_, o, ho, _⟩ := I.ok.funs.mem z
    exact absurd (Nat.lt_of_lt_of_le (Heap.lt_size ho) (I.ok.cab y c hf e)) (Nat.lt_irrefl _)
theorem clo_fnAt {f : Addr} {F : CF} (I : Inv X pins σ H s) (e : H f = some (CloO f F)) : PySem.W.FnAt f s.heap := by
  obtain ⟨od, sl, doc, pm, ctv, ho⟩ := cloO_at I.hok e
  exact ⟨_, od, _, sl, ho⟩
end
/-- f(..), f a name that holds a function of which the frame knows from its entry -/
def tCallF (X : Cx) (k i : Nat) (t : TA) : TE := fun σ H Q => ∃ f F, σ[i]? = some (some (.ref f)) ∧ H f = some (CloO f F) ∧
  t σ H fun vs H1 => ∃ fr ws sp, H1 f = some (CloO f F) ∧ H1 F.c = some (CodeO F.c F.qual) ∧ CellsAt F.cl fr ws X.s_0.heap X.H_0 ∧ (∀ y c, F.cl.lookup y = some c → c ∉ X.fs) ∧ COk X.prog X.w X.K X.mg X.base k f F fr sp ∧ sp ws vs H1 Q E0
theorem pe_callF {X : Cx} {k i : Nat} {x : Str} {t : TA} {e : Expr} {es : List Expr} {p pos : Pos} (hr : Room k X.A) (hex : X.ex = []) (hN : X.N[i]? = some x) (hv : Vis X.env.scope x) (ha : PA X (e :: es) t)
    (hd : (x == ("__debug__" : Str)) = false) (hcd : (x == ("__classdict__" : Str)) = false)
    (he : starEach (e :: es) X.env = (false, eval e X.env) :: starEach es X.env) (hpl : (backTo pos (starEach es X.env)).any (·.1) = false) :
    PE X (.Call (.Name x p) (e :: es) [] pos) (tCallF X k i t) := by
  refine ⟨fun pins s σ H Q I h => ?_⟩
  obtain ⟨f, F, hs, hf, ht⟩ := h
  refine wpAny_Call_Name_kw (thn ((pe_var (pos := p) hN hv hd hcd).run pins s σ H (fun v H1 => v = .ref f ∧ H1 = H) I ⟨.ref f, hs, rfl, rfl⟩) fun u s1 ⟨v, H1, I1, r1, q1⟩ => ?_)
  obtain ⟨ev, eH⟩ := q1
  subst ev
  rw [eH] at I1
  obtain rfl : u = Value.ref f := r1
  refine PySem.W.callWith_F (first := []) (clo_fnAt I1 hf) (thn (ha.run pos pins s1 σ H _ I1 ht) fun us s2 ⟨vs, H2, I2, r, fr, ws, sp, h1, h2, C, nf, Fn, q⟩ => ⟨clo_fnAt I2 h1, ?_⟩) he hpl
  show wpAny _ _ (call (.ref f) us) _ _ _
  have C2 := C.later nf (fun _ _ _ => by rw [hex]; simp) I2
  refine wpAny_call (codeAny_mono (Fn.run X.A X.stack s2 H2 us vs ws Q E0 hr I2.env0 h1 h2 C2 r q) fun r s' hq => ?_)
  cases r with
  | error e => exact (show False from hq).elim
  | ok fl =>
    cases fl with
    | ret u => exact I2.after hq
    | next => exact False.elim hq
    | brk => exact False.elim hq
    | cont => exact False.elim hq
/-- a def to which functions may be handed: its promise is told of the very state -/
structure CalS (P : Program) (w : World) (K : PySem.W.Frag) (mg : Str → Option Value) (base : Heap) (k : Nat) (x : Str) (sp : List Env → Shared → Sp) : Prop where
  ex : ∃ f : Addr, (∀ (A : Around) (outer : List Env) (s : Shared) (H : Hp) (us : List Value) (vs : List V) (Q : VK) (E : XK), Room k A → Env0 P w K mg base A outer s H → Vals vs us → sp outer s vs H Q E → codeAny (model P w) A (.call (.ref f) ⟨us, []⟩) (CR CX0 outer P w H s Q E) s) ∧
    mg x = some (.ref f) ∧ PySem.W.keepIn K (.ref f) = true
def tCallS (X : Cx) (sp : List Env → Shared → Sp) (t : TA) : TE := fun σ H Q => t σ H fun vs H1 => ∀ pins s, Inv X pins σ H1 s → sp X.stack s vs H1 Q E0
theorem pe_callS {X : Cx} {k : Nat} {x : Str} {sp : List Env → Shared → Sp} {t : TA} {e : Expr} {es : List Expr} {p pos : Pos} (Fn : CalS X.prog X.w X.K X.mg X.base k x sp) (hr : Room k X.A) (hg : Gl X x) (ha : PA X (e :: es) t)
    (hdb : (x == ("__debug__" : Str)) = false) (he : starEach (e :: es) X.env = (false, eval e X.env) :: starEach es X.env) (hpl : (backTo pos (starEach es X.env)).any (·.1) = false) :
    PE X (.Call (.Name x p) (e :: es) [] pos) (tCallS X sp t) := by
  refine ⟨fun pins s σ H Q I h => ?_⟩
  obtain ⟨f, hrun, hm, hk⟩ := Fn.ex
  refine wpAny_Call_Name_kw (ld_glob I hg hm ?_ hdb)
  refine PySem.W.callWith_K (h₀ := X.base) I.ok.mod.kin hk (thn (ha.run pos pins s σ H _ I h) fun us s2 ⟨vs, H2, I2, r, q⟩ => ⟨I2.kIn, ?_⟩) he hpl
  show wpAny _ _ (call (.ref f) us) _ _ _
  refine wpAny_call (codeAny_mono (hrun X.A X.stack s2 H2 us vs Q E0 hr I2.env0 r (q pins s2 I2)) fun r s' hq => ?_)
  cases r with
  | error e => exact (show False from hq).elim
  | ok fl =>
    cases fl with
    | ret u => exact I2.after hq
    | next => exact False.elim hq
    | brk => exact False.elim hq
    | cont => exact False.elim hq
/-- a lambda, as an expression -/
def tLamK (X : Cx) (P : Addr) (pos : Pos) (mk : Addr → CF) : TE := fun σ H Q => ∃ ps : Array Value, H P = some (.tbl ps) ∧ TriplesOk ps.toList ∧ (∀ cv, codeAmong pos ps.toList = some cv → ∃ c', cv = .ref c') ∧
  ∀ f c' H1, Made H P ps pos (X.env.qual ++ "<lambda>") f c' (CloO f (mk c')) H1 → Q (.ref f) H1
theorem pe_lamK {X : Cx} {c P : Addr} {params : Arguments} {body : Expr} {scope : Scope} {pos : Pos} (TB : TabB X.base X.mg c P) (hcode : X.env.code = .ref c) (hdef : defaultsOf params X.env = ([], []))
    (hfree : ∀ y ∈ scope.names, y.2 = .free → X.env.scope.names.lookup y.1 = some .cell ∨ X.env.scope.names.lookup y.1 = some .free) :
    PE X (.Lambda params body scope pos) (tLamK X P pos fun c' => CF.ofLam (X.env.qual ++ "<lambda>") params body scope (cloFrom X.env.cells scope.names []) c') := by
  refine ⟨fun pins s σ H Q I h => ?_⟩
  obtain ⟨ps, hP, ht, ha, h⟩ := h
  have hfr : ∀ y ∈ scope.names, y.2 = .free → ∃ c, X.env.cells.lookup y.1 = some c := fun y hy e => (hfree y hy e).elim (fun z => I.ok.has _ (.inl z)) fun z => I.ok.has _ (.inr z)
  exact mk_lam I TB hcode hP ht ha hdef hfr fun f c' H1 s' m I1 => ⟨.ref f, H1, I1, rfl, h f c' H1 m⟩
/-- a nested def, as a statement -/
def tDefK (X : Cx) (P : Addr) (pos : Pos) (name : Str) (i : Nat) (mk : Addr → CF) : TS := fun D σ H => ∃ ps : Array Value, H P = some (.tbl ps) ∧ TriplesOk ps.toList ∧ (∀ cv, codeAmong pos ps.toList = some cv → ∃ c', cv = .ref c') ∧
  (σ.length = X.N.length → ∀ f c' H1, Made H P ps pos (X.env.qual ++ name) f c' (CloO f (mk c')) H1 → D.nx (σ.set i (some (.ref f))) H1)
theorem ps_defK {X : Cx} {c P : Addr} {name : Str} {params : Arguments} {body : List Stmt} {scope : Scope} {pos : Pos} {i : Nat} (TB : TabB X.base X.mg c P) (hcode : X.env.code = .ref c)
    (hfree : ∀ y ∈ scope.names, y.2 = .free → X.env.scope.names.lookup y.1 = some .cell ∨ X.env.scope.names.lookup y.1 = some .free) (hd0 : params.defaults = []) (hk0 : params.kw_defaults = []) (ha : annTrees params none X.env = [])
    (hN : X.N.Nodup) (hi : X.N[i]? = some name) (hx : Loc X.env.scope name) (hf : X.fn name = true ∨ X.env.scope.names.lookup name = some .local) :
    PS X (.FunctionDef name params body [] none [] scope none name pos) (tDefK X P pos name i fun c' => CF.ofDef ⟨name, X.env.qual ++ name, params, body, scope, cloFrom X.env.cells scope.names [], c'⟩) := by
  refine ⟨fun pins s σ H D I h => ?_⟩
  obtain ⟨ps, hP, ht, hc, h⟩ := h
  have hq : qualnameIn X.env name name = X.env.qual ++ name := by
    have hk : X.env.kindOf name = some .local ∨ X.env.kindOf name = some .cell := hx
    unfold qualnameIn
    rcases hk with k | k <;> rw [k] <;> first | rfl | exact if_neg (by decide)
  refine PySem.W.nestDef_K hd0 hk0 ha ?_
  rw [hq]
  have hfr : ∀ y ∈ scope.names, y.2 = .free → ∃ c, X.env.cells.lookup y.1 = some c := fun y hy e => (hfree y hy e).elim (fun z => I.ok.has _ (.inl z)) fun z => I.ok.has _ (.inr z)
  refine mk_def I TB hcode hP ht hc hfr fun f c' H1 s' m I1 => ?_
  exact store_ok I1 hN hi hx (v := .ref f) rfl (fun s'' J => ⟨_, H1, J, h I.len f c' H1 m⟩) hf
end Dl

/-! D7: which text a term of the small language stands for, and that the text then does what the term says. -/
namespace Dl
open PySem PySem.Spec PyProof.Rows L2

structure Sx where
  N : List Str
  sc : Scope
  raw : Scope
  pro : List Nat
  T : List (Str × Df)
  /-- may functions be called that a name holds? -/
  hf : Bool

def visB (sc : Scope) (x : Str) : Bool := match sc.names.lookup x with
  | some .local => true
  | some .cell => true
  | some .free => true
  | _ => false
def glB (sc : Scope) (x : Str) : Bool := match sc.names.lookup x with
  | some .globalImplicit => true
  | _ => false
def stB (sc : Scope) (x : Str) : Bool := match sc.names.lookup x with
  | some .local => true
  | some .cell => true
  | _ => false
/-- no starred one, no slice, no set display, no bare call -/
def plain : Expr → Bool
  | .Starred .. => false
  | .Slice .. => false
  | .Set .. => false
  | .Call (.Name _ _) [] [] _ => false
  | _ => true
/-- its truth is that of its value -/
def truB : Expr → Bool
  | .UnaryOp .Not _ _ => false
  | .BoolOp .. => false
  | .IfExp .. => false
  | .Compare .. => false
  | _ => true
def noComp : Expr → Bool
  | .ListComp .. => false
  | .SetComp .. => false
  | .DictComp .. => false
  | _ => true
def isComp : E → Bool
  | .comp .. => true
  | _ => false
def isTupE : Expr → Bool
  | .Tuple .. => true
  | _ => false
def noTup : Expr → Bool
  | .Tuple .. => false
  | _ => true
def chkN (Z : Sx) (i : Nat) (x : Str) : Bool := decide (Z.N[i]? = some x)
def varB (Z : Sx) (i : Nat) (x : Str) : Bool := chkN Z i x && visB Z.sc x && !(x == ("__debug__" : Str)) && !(x == ("__classdict__" : Str))
def glob1 (Z : Sx) (x y : Str) : Bool := decide (x = y) && glB Z.sc y

def shape1 (Z : Sx) : K1 → Expr → Option Expr
  | .len, .Call (.Name x _) [a] [] _ => if glob1 Z x "len" then some a else none
  | .int, .Call (.Name x _) [a] [] _ => if glob1 Z x "int" then some a else none
  | .lrg, .Call (.Name x _) [.Call (.Name y _) [a] [] _] [] _ => if glob1 Z x "list" && glob1 Z y "range" then some a else none
  | .list, .Call (.Name x _) [a] [] _ => if glob1 Z x "list" then some a else none
  | .tuple, .Call (.Name x _) [a] [] _ => if glob1 Z x "tuple" then some a else none
  | .sorted, .Call (.Name x _) [a] [] _ => if glob1 Z x "sorted" then some a else none
  | .isi "bool", .Call (.Name x _) [a, .Name y _] [] _ => if glob1 Z x "isinstance" && glob1 Z y "bool" then some a else none
  | .isi "int", .Call (.Name x _) [a, .Name y _] [] _ => if glob1 Z x "isinstance" && glob1 Z y "int" then some a else none
  | .isi "str", .Call (.Name x _) [a, .Name y _] [] _ => if glob1 Z x "isinstance" && glob1 Z y "str" then some a else none
  | .isi "list", .Call (.Name x _) [a, .Name y _] [] _ => if glob1 Z x "isinstance" && glob1 Z y "list" then some a else none
  | .isi "tuple", .Call (.Name x _) [a, .Name y _] [] _ => if glob1 Z x "isinstance" && glob1 Z y "tuple" then some a else none
  | .neg, .UnaryOp .USub a _ => some a
  | .sset, .Call (.Name x _) [.Call (.Name y _) [a] [] _] [] _ => if glob1 Z x "sorted" && glob1 Z y "set" then some a else none
  | .abs, .Call (.Name x _) [a] [] _ => if glob1 Z x "abs" then some a else none
  | .sum, .Call (.Name x _) [a] [] _ => if glob1 Z x "sum" then some a else none
  | .all, .Call (.Name x _) [a] [] _ => if glob1 Z x "all" then some a else none
  | .maxL, .Call (.Name x _) [a] [] _ => if glob1 Z x "max" then some a else none
  | .minL, .Call (.Name x _) [a] [] _ => if glob1 Z x "min" then some a else none
  | .lset, .Call (.Name x _) [.Call (.Name y _) [a] [] _] [] _ => if glob1 Z x "len" && glob1 Z y "set" then some a else none
  | .dctP, .Call (.Name x _) [a] [] _ => if glob1 Z x "dict" then some a else none
  | _, _ => none
def shape2 (Z : Sx) : K2 → Expr → Option (Expr × Expr)
  | .add, .BinOp a .Add b _ => some (a, b)
  | .sub, .BinOp a .Sub b _ => some (a, b)
  | .mul, .BinOp a .Mult b _ => some (a, b)
  | .div, .BinOp a .FloorDiv b _ => some (a, b)
  | .mod, .BinOp a .Mod b _ => some (a, b)
  | .pow, .BinOp a .Pow b _ => some (a, b)
  | .eq, .Compare a [.Eq] [b] _ => some (a, b)
  | .ne, .Compare a [.NotEq] [b] _ => some (a, b)
  | .lt, .Compare a [.Lt] [b] _ => some (a, b)
  | .le, .Compare a [.LtE] [b] _ => some (a, b)
  | .gt, .Compare a [.Gt] [b] _ => some (a, b)
  | .ge, .Compare a [.GtE] [b] _ => some (a, b)
  | .is, .Compare a [.Is] [b] _ => some (a, b)
  | .isNot, .Compare a [.IsNot] [b] _ => some (a, b)
  | .isIn, .Compare a [.In] [b] _ => some (a, b)
  | .notIn, .Compare a [.NotIn] [b] _ => some (a, b)
  | .at, .Subscript a b _ => some (a, b)
  | .index, .Call (.Attribute a n ap) [b] [] cp => if decide (n = "index") && (ap.endLine == cp.line) then some (a, b) else none
  | .join, .Call (.Attribute a n ap) [b] [] cp => if decide (n = "join") && (ap.endLine == cp.line) then some (a, b) else none
  | .min2, .Call (.Name x _) [a, b] [] _ => if glob1 Z x "min" then some (a, b) else none
  | .max2, .Call (.Name x _) [a, b] [] _ => if glob1 Z x "max" then some (a, b) else none
  | .bor, .BinOp a .BitOr b _ => some (a, b)
  | .lzip, .Call (.Name x _) [.Call (.Name y _) [a, b] [] _] [] _ => if glob1 Z x "list" && glob1 Z y "zip" then some (a, b) else none
  | _, _ => none
def cmpB : K2 → Bool
  | .eq | .ne | .lt | .le | .gt | .ge | .is | .isNot | .isIn | .notIn => true
  | _ => false
def chkTg (Z : Sx) : Tg → Expr → Bool
  | .name i, .Name x _ => chkN Z i x && stB Z.raw x
  | .tup is, .Tuple ts _ _ => chkNs is ts
  | _, _ => false
where chkNs : List Nat → List Expr → Bool
  | [], [] => true
  | i :: is, .Name x _ :: ts => chkN Z i x && stB Z.raw x && chkNs is ts
  | _, _ => false
def ownP (N : List Str) (own : List Nat) : List (Str × Nat) := own.map fun i => (N.getD i ⟨#[]⟩, i)
theorem ownP_snd (N : List Str) (own : List Nat) : (ownP N own).map (·.2) = own := by
  unfold ownP
  rw [List.map_map]
  exact List.map_id own

mutual
def chkE (Z : Sx) : E → Expr → Bool
  | .var i, x => match x with
    | .Name x _ => varB Z i x
    | _ => false
  | .non, x => match x with
    | .Constant .none _ _ => true
    | _ => false
  | .bl b, x => match x with
    | .Constant (.bool c) _ _ => b == c
    | _ => false
  | .int n, x => match x with
    | .Constant (.int m) _ _ => decide (n = m)
    | _ => false
  | .str z, x => match x with
    | .Constant (.str y) _ _ => decide (z = y) && decide (z.length ≤ 1000)
    | _ => false
  | .tup es, x => match x with
    | .Tuple xs _ _ => chkL Z es xs && decide (xs.length ≤ 1000)
    | _ => false
  | .lst es, x => match x with
    | .List xs _ => chkL Z es xs && decide (xs.length ≤ 1000)
    | _ => false
  | .op1 k a, e => match shape1 Z k e with
    | some x => chkE Z a x && plain x
    | none => false
  | .op2 k a b, e => match shape2 Z k e with
    | some (x, y) => chkE Z a x && chkE Z b y && plain x && plain y
    | none => false
  | .cut a lo hi, x => match x with
    | .Subscript x (.Slice l h none _) _ => chkE Z a x && chkO Z lo l && chkO Z hi h
    | _ => false
  | .rev a, x => match x with
    | .Subscript x (.Slice none none (some (.UnaryOp .USub (.Constant (.int m) _ _) _)) _) _ => chkE Z a x && decide (m = 1)
    | _ => false
  | .and a b, x => match x with
    | .BoolOp .And (x :: y :: rest) p => chkE Z a x && (match rest with
      | [] => chkE Z b y
      | _ :: _ => chkE Z b (.BoolOp .And (y :: rest) p))
    | _ => false
  | .or a b, x => match x with
    | .BoolOp .Or (x :: y :: rest) p => chkE Z a x && (match rest with
      | [] => chkE Z b y
      | _ :: _ => chkE Z b (.BoolOp .Or (y :: rest) p))
    | _ => false
  | .not a, x => match x with
    | .UnaryOp .Not x _ => chkE Z a x
    | _ => false
  | .ite t a b, x => match x with
    | .IfExp c x y _ => chkT Z t c && chkE Z a x && chkE Z b y
    | _ => false
  | .call f es, x => match x with
    | .Call (.Name x _) (y :: ys) [] _ => decide (f = x) && glB Z.sc x && !(x == ("__debug__" : Str)) && chkL Z es (y :: ys) && (match Z.T.lookup f with | some D => decide (D.kd = 0) | none => false)
    | _ => false
  | .callB f es, x => match x with
    | .Call (.Name x _) (y :: ys) [] _ => decide (f = x) && glB Z.sc x && !(x == ("__debug__" : Str)) && chkL Z es (y :: ys) && (match Z.T.lookup f with | some D => D.io.isNone && decide (D.kd = 0) | none => false)
    | _ => false
  | .pop i a, x => match x with
    | .Call (.Attribute (.Name x _) n ap) [y] [] cp => varB Z i x && decide (n = "pop") && (ap.endLine == cp.line) && chkE Z a y && plain y
    | _ => false
  | .app i a, x => match x with
    | .Call (.Attribute (.Name x _) n ap) [y] [] cp => varB Z i x && decide (n = "append") && (ap.endLine == cp.line) && chkE Z a y && plain y
    | _ => false
  | .dct es, x => match x with
    | .Dict ks vs _ => chkP Z es ks vs && decide (ks.length ≤ 15)
    | _ => false
  | .setd i a b, x => match x with
    | .Call (.Attribute (.Name x _) n ap) [y, z] [] cp => varB Z i x && decide (n = "setdefault") && (ap.endLine == cp.line) && chkE Z a y && plain y && chkE Z b z && plain z
    | _ => false
  | .ins i a b, x => match x with
    | .Call (.Attribute (.Name x _) n ap) [y, z] [] cp => varB Z i x && decide (n = "insert") && (ap.endLine == cp.line) && chkE Z a y && plain y && chkE Z b z && plain z
    | _ => false
  | .pop0 i, x => match x with
    | .Call (.Attribute (.Name x _) n ap) [] [] cp => varB Z i x && decide (n = "pop") && (ap.endLine == cp.line)
    | _ => false
  | .ext i a, x => match x with
    | .Call (.Attribute (.Name x _) n ap) [y] [] cp => varB Z i x && decide (n = "extend") && (ap.endLine == cp.line) && chkE Z a y && plain y
    | _ => false
  | .call0 f, x => match x with
    | .Call (.Name x _) [] [] _ => decide (f = x) && glB Z.sc x && !(x == ("__debug__" : Str)) && (match Z.T.lookup f with | some D => D.io.isNone && decide (D.kd = 0) | none => false)
    | _ => false
  | .step a lo st, x => match x with
    | .Subscript x (.Slice l none (some s) _) _ => chkE Z a x && chkO Z lo l && chkE Z st s
    | _ => false
  | .bor e, x => chkE Z e x
  | .callF i es, x => match x with
    | .Call (.Name x _) (y :: ys) [] _ => Z.hf && varB Z i x && chkL Z es (y :: ys)
    | _ => false
  | .comp own tg src c elt, x => match x with
    | .ListComp el [⟨t, it, ifs, 0⟩] scope _ =>
      blkC Z.N Z.sc scope (ownP Z.N own) && chkTg { Z with sc := relS scope Z.sc, raw := scope, hf := false } tg t && chkI Z src t it && plain it && chkOt { Z with sc := relS scope Z.sc, raw := scope, hf := false } c ifs &&
        chkE { Z with sc := relS scope Z.sc, raw := scope, hf := false } elt el && ((tgSlots tg).all fun i => decide (i ∈ own)) && (Z.pro.all fun i => !decide (i ∈ own))
    | _ => false
def chkL (Z : Sx) : Es → List Expr → Bool
  | .nil, xs => match xs with
    | [] => true
    | _ => false
  | .cons e es, xs => match xs with
    | x :: xs => chkE Z e x && plain x && chkL Z es xs
    | _ => false
def chkP (Z : Sx) : Es → List (Option Expr) → List Expr → Bool
  | .nil, ks, vs => match ks, vs with
    | [], [] => true
    | _, _ => false
  | .cons _ .nil, _, _ => false
  | .cons k (.cons v es), ks, vs => match ks, vs with
    | some x :: ks, y :: vs => chkE Z k x && chkE Z v y && chkP Z es ks vs
    | _, _ => false
def chkO (Z : Sx) : Oe → Option Expr → Bool
  | .no, x => match x with
    | none => true
    | _ => false
  | .yes e, x => match x with
    | some x => chkE Z e x
    | _ => false
def chkOt (Z : Sx) : Ot → List Expr → Bool
  | .no, xs => match xs with
    | [] => true
    | _ => false
  | .yes t, xs => match xs with
    | [x] => chkT Z t x
    | _ => false
def chkT (Z : Sx) : T → Expr → Bool
  | .val e, x => truB x && chkE Z e x
  | .cmp k a b, e => match shape2 Z k e with
    | some (x, y) => cmpB k && chkE Z a x && chkE Z b y && plain x && plain y
    | none => false
  | .not t, x => match x with
    | .UnaryOp .Not x _ => chkT Z t x
    | _ => false
  | .and a b, x => match x with
    | .BoolOp .And (x :: y :: rest) p => chkT Z a x && (match rest with
      | [] => chkT Z b y
      | _ :: _ => chkT Z b (.BoolOp .And (y :: rest) p))
    | _ => false
  | .or a b, x => match x with
    | .BoolOp .Or (x :: y :: rest) p => chkT Z a x && (match rest with
      | [] => chkT Z b y
      | _ :: _ => chkT Z b (.BoolOp .Or (y :: rest) p))
    | _ => false
def chkI (Z : Sx) : Src → Expr → Expr → Bool
  | .seq e, _, x => chkE Z e x
  | .rng1 a, _, x => match x with
    | .Call (.Name f _) [x] [] _ => glob1 Z f "range" && chkE Z a x && plain x
    | _ => false
  | .rng2 a b, _, x => match x with
    | .Call (.Name f _) [x, y] [] _ => glob1 Z f "range" && chkE Z a x && chkE Z b y && plain x && plain y
    | _ => false
  | .zip es, t, x => match x with
    | .Call (.Name f _) [x, y] [] _ => isTupE t && glob1 Z f "zip" && chkL Z es [x, y] && plain x && plain y
    | _ => false
  | .enm es, t, x => match x with
    | .Call (.Name f _) [x] [] _ => isTupE t && glob1 Z f "enumerate" && chkL Z es [x] && plain x
    | _ => false
  | .rng3 es, _, x => match x with
    | .Call (.Name f _) [x, y, z] [] _ => glob1 Z f "range" && chkL Z es [x, y, z] && plain x && plain y && plain z
    | _ => false
end
mutual
def chkS (Z : Sx) : S → Stmt → Bool
  | .expr e, x => match x with
    | .Expr x _ => chkE Z e x && noComp x
    | _ => false
  | .set i e, x => match x with
    | .Assign [.Name x _] y _ => chkN Z i x && stB Z.raw x && !decide (i ∈ Z.pro) && chkE Z e y && (noComp y || isComp e)
    | _ => false
  | .unp is e, x => match x with
    | .Assign [.Tuple ts k p] y _ => chkTg Z (.tup is) (.Tuple ts k p) && chkE Z e y && noTup y && (Z.pro.all fun i => !decide (i ∈ is))
    | _ => false
  | .setAt i ix e, x => match x with
    | .Assign [.Subscript (.Name x _) j _] y _ => varB Z i x && chkE Z ix j && plain j && chkE Z e y
    | _ => false
  | .aug i k e, x => match x with
    | .AugAssign (.Name x _) .Add y _ => decide (k = .add) && chkN Z i x && stB Z.raw x && !decide (i ∈ Z.pro) && chkE Z e y
    | .AugAssign (.Name x _) .Sub y _ => decide (k = .sub) && chkN Z i x && stB Z.raw x && !decide (i ∈ Z.pro) && chkE Z e y
    | _ => false
  | .ife t a b, x => match x with
    | .If c x y _ => chkT Z t c && chkB Z a x && chkB Z b y
    | _ => false
  | .for_ tg src body _, x => match x with
    | .For t it bd [] _ => chkTg Z tg t && chkI Z src t it && plain it && chkB Z body bd && (Z.pro.all fun i => !decide (i ∈ tgSlots tg))
    | _ => false
  | .whl t body _, x => match x with
    | .While c bd [] _ => chkT Z t c && chkB Z body bd
    | _ => false
  | .ret e, x => match x with
    | .Return (some x) _ => chkE Z e x
    | _ => false
  | .retN, x => match x with
    | .Return none _ => true
    | _ => false
  | .pass, x => match x with
    | .Pass _ => true
    | _ => false
  | .brk, x => match x with
    | .Break _ => true
    | _ => false
  | .cont, x => match x with
    | .Continue _ => true
    | _ => false
def chkB (Z : Sx) : Ss → List Stmt → Bool
  | .nil, xs => match xs with
    | [] => true
    | _ => false
  | .cons s ss, xs => match xs with
    | x :: xs => chkS Z s x && chkB Z ss xs
    | _ => false
end

/-! ### what the text's forms give -/
theorem plain_star {e : Expr} (h : plain e = true) (es : List Expr) (env : Env) : starEach (e :: es) env = (false, eval e env) :: starEach es env := by
  cases e with
  | Starred v p => cases h
  | _ => rfl
theorem plain_base {e : Expr} (h : plain e = true) (n : Str) (env : Env) (w : Sem Value) : attributeBase e n env w = w := by
  unfold attributeBase
  split
  · exact absurd (show false = true from h) Bool.false_ne_true
  · rfl
theorem plain_mark {e : Expr} (h : plain e = true) (op : CmpOp) : behindInMarks op e = false := by
  cases e with
  | Set a b c => cases h
  | _ => rfl
theorem plain_ix {e : Expr} (h : plain e = true) : PlainIx e := fun o i => by
  cases e with
  | Slice a b c d => cases h
  | _ => rfl
theorem plain_fold {e : Expr} (h : plain e = true) (env : Env) (x : Value) : foldedSetIterable e env x = pure x := by
  cases e with
  | Set a b c => cases h
  | _ => rfl
theorem tru_is {e : Expr} (h : truB e = true) (env : Env) (whole : Sem Value) : isTrue e env whole = (do let v ← whole; standAt e.pos; holding [v] (truthy v)) := by
  cases e with
  | UnaryOp op a p =>
    cases op with
    | Not => cases h
    | _ => rfl
  | BoolOp a b c => cases h
  | IfExp a b c d => cases h
  | Compare a b c d => cases h
  | _ => rfl
theorem noComp_sw {e : Expr} (h : noComp e = true) (t : Option Expr) (l : Nat) (env : Env) : swapsWith e t l env = pure false := by
  cases e with
  | ListComp a b c d => cases h
  | SetComp a b c d => cases h
  | DictComp a b c d f => cases h
  | _ => rfl

def bnames : List Str := ["len", "int", "list", "tuple", "sorted", "isinstance", "range", "bool", "str", "zip", "enumerate", "set", "min", "max", "sum", "abs", "dict", "all", "reversed", "repr"]
/-- a def of the text that may be called by its name -/
structure Cal (P : Program) (w : World) (K : PySem.W.Frag) (mg : Str → Option Value) (base : Heap) (k : Nat) (x : Str) (sp : Sp) : Prop where
  ex : ∃ (f : Addr) (fd : FuncData) (ps : List Str), FnOk P w K mg base CX0 k f fd ps sp ∧ mg x = some (.ref f) ∧ PySem.W.keepIn K (.ref f) = true ∧ Binds K fd ps []
/-- a function's promise, by its captured values -/
def spC (K : Kw) (np m : Nat) (phi : List Dat → Option (Out × Dat)) : List (Option V) → Sp := fun wo vs H Q E => ∃ ws : List V, wo = ws.map some ∧ ws.length = m ∧ spD K none np phi (vs ++ ws) H Q E
/-- what a frame knows of a function from its entry -/
def CloK (X : Cx) (G : CK) (k : Nat) (phi : List Dat → Option (Out × Dat)) (F : Hp) (v : V) (env : List Dat) : Prop := ∃ (G0 : CK) (f : Addr) (C : CF) (fr : List Str) (ws : List V) (np : Nat), G0.nm = G.nm ∧ G0.tbs = G.tbs ∧ v = .ref f ∧ F f = some (CloO f C) ∧ F C.c = some (LamX.CodeO C.c C.qual) ∧
  NdefX.CellsAt C.cl fr (ws.map some) X.s_0.heap X.H_0 ∧ (∀ y c, C.cl.lookup y = some c → c ∉ X.fs) ∧ COk X.prog X.w X.K X.mg X.base k f C fr (spC (X.kw G0) np fr.length phi) ∧ DenL (X.kw G0) F env ws ∧ ∀ ds x, phi ds = some x → ds.length = np
structure GdX (X : Cx) (Z : Sx) (n k : Nat) (G : CK) : Prop where
  N : X.N = Z.N
  nd : Z.N.Nodup
  sc : X.env.scope = Z.sc
  st : ∀ x, stB Z.raw x = true → Loc X.env.scope x ∧ (X.fn x = true ∨ X.env.scope.names.lookup x = some .local)
  calm : X.calm = true
  room : Room k X.A
  pa : PassesOwn (model X.prog X.w) X.A X.env X.xe
  bi : ∀ x ∈ bnames, X.mg x = none
  cal : ∀ f D, Z.T.lookup f = some D → D.kd = 0 → k = 0 ∨ Cal X.prog X.w X.K X.mg X.base k f (spD (X.kw G) D.io D.ps ((Phi Z.T n k).phi f))
  kd : Z.sc.kind = .function
  hf : Z.hf = true → X.ex = [] ∧ ∀ F v c env, G.ck F v c env → k = 0 ∨ CloK X G k ((Phi Z.T n k).phi (cloKey c)) F v env
section
variable {X : Cx} {Z : Sx} {n k : Nat} {G : CK}
theorem GdX.vis (g : GdX X Z n k G) {x : Str} (h : visB Z.sc x = true) : Vis X.env.scope x := by
  rw [g.sc]
  unfold visB at h
  split at h
  · rename_i e; exact .inl e
  · rename_i e; exact .inr (.inl e)
  · rename_i e; exact .inr (.inr e)
  · cases h
theorem GdX.gl (g : GdX X Z n k G) {x : Str} (h : glB Z.sc x = true) : Gl X x := by
  unfold glB at h
  split at h
  · rename_i e
    show X.env.scope.names.lookup x = _
    rw [g.sc]
    exact e
  · cases h
theorem GdX.pvar (g : GdX X Z n k G) {i : Nat} {x : Str} {pos : Pos} (h : varB Z i x = true) : PE X (.Name x pos) (tVar i) := by
  unfold varB at h
  simp only [Bool.and_eq_true, Bool.not_eq_true'] at h
  obtain ⟨⟨⟨h1, h2⟩, h3⟩, h4⟩ := h
  exact pe_var (by rw [g.N]; exact of_decide_eq_true h1) (g.vis h2) h3 h4
theorem GdX.glob (g : GdX X Z n k G) {x y : Str} (h : glob1 Z x y = true) : x = y ∧ Gl X y := by
  unfold glob1 at h
  rw [Bool.and_eq_true] at h
  exact ⟨of_decide_eq_true h.1, g.gl h.2⟩
theorem GdX.pg (g : GdX X Z n k G) {i : Nat} {x : Str} {pos : Pos} (h1 : chkN Z i x = true) (h2 : stB Z.raw x = true) : PG X (.Name x pos) (gName i) := by
  obtain ⟨h3, h4⟩ := g.st x h2
  exact pg_name (by rw [g.N]; exact g.nd) (by rw [g.N]; exact of_decide_eq_true h1) h3 h4
theorem pgs_names (g : GdX X Z n k G) : ∀ {is : List Nat} {ts : List Expr}, chkTg.chkNs Z is ts = true → PGs X ts (gNames is) ∧ (assignEach ts X.env).length = is.length ∧ (assignEach ts X.env).findIdx? (·.1) = none
  | [], [], _ => ⟨pgs_nil, rfl, rfl⟩
  | i :: is, .Name x p :: ts, h => by
    unfold chkTg.chkNs at h
    simp only [Bool.and_eq_true] at h
    obtain ⟨⟨h1, h2⟩, h3⟩ := h
    obtain ⟨g1, g2, g3⟩ := pgs_names g h3
    refine ⟨pgs_cons (g.pg h1 h2) g1 rfl, ?_, ?_⟩
    · show (assignEach ts X.env).length + 1 = _
      rw [g2]
      rfl
    · show List.findIdx? (·.1) ((false, assign (.Name x p) X.env) :: assignEach ts X.env) = none
      rw [List.findIdx?_cons, g3]
      rfl
  | [], _ :: _, h => by cases h
  | _ :: _, [], h => by cases h
  | i :: is, e :: ts, h => by
    cases e with
    | Name x p =>
      unfold chkTg.chkNs at h
      simp only [Bool.and_eq_true] at h
      obtain ⟨⟨h1, h2⟩, h3⟩ := h
      obtain ⟨g1, g2, g3⟩ := pgs_names g h3
      refine ⟨pgs_cons (g.pg h1 h2) g1 rfl, ?_, ?_⟩
      · show (assignEach ts X.env).length + 1 = _
        rw [g2]
        rfl
      · show List.findIdx? (·.1) ((false, assign (.Name x p) X.env) :: assignEach ts X.env) = none
        rw [List.findIdx?_cons, g3]
        rfl
    | _ => cases h
theorem GdX.tg (g : GdX X Z n k G) {tg : Tg} {t : Expr} (h : chkTg Z tg t = true) : PG X t (gT (X.kw G) tg) := by
  cases tg with
  | name i =>
    cases t with
    | Name x p =>
      have h : (chkN Z i x && stB Z.raw x) = true := h
      rw [Bool.and_eq_true] at h
      exact g.pg h.1 h.2
    | _ => cases h
  | tup is =>
    cases t with
    | Tuple ts k p =>
      obtain ⟨g1, g2, g3⟩ := pgs_names g (is := is) (ts := ts) h
      exact ⟨fun pins s σ H v u Q I r hw => by
        rcases hw with hw | hw
        · exact (pg_tup g.calm g1 g2 g3).run pins s σ H v u Q I r hw
        · exact (pg_unl g.calm g1 g2 g3).run pins s σ H v u Q I r hw⟩
    | _ => cases h
/-- the block of a comprehension -/
theorem GdX.blk (g : GdX X Z n k G) {own : List (Str × Nat)} {scope : Scope} (hb : blkC Z.N Z.sc scope own = true) (s : Shared) (H : Hp) (C : Addr) (cl : List (Str × Addr)) (fp : List Addr) :
    GdX (X.blk s H scope (compEnvC scope cl C X.env) fp) { Z with sc := relS scope Z.sc, raw := scope, hf := false } n k G := by
  have hk := (blkOk_by hb).kind
  refine ⟨g.N, g.nd, ?_, fun x hx => ?_, g.calm, g.room, PassesOwn.never, g.bi, g.cal, ?_, fun z => nomatch z⟩
  · show relabel scope X.env = relS scope Z.sc
    rw [← g.sc]
    rfl
  · have e : (compEnvC scope cl C X.env).scope = relS scope X.env.scope := rfl
    show Loc (compEnvC scope cl C X.env).scope x ∧ _
    rw [e]
    unfold stB at hx
    split at hx
    · rename_i hl
      have := lookup_relS_keep (sc := X.env.scope) (by decide) hl
      exact ⟨.inl this, .inr (by show (compEnvC scope cl C X.env).scope.names.lookup x = _; rw [e]; exact this)⟩
    · rename_i hl
      have := lookup_relS_keep (sc := X.env.scope) (by decide) hl
      exact ⟨.inr this, .inl (by show (scope.names.lookup x == some .cell) = true; rw [hl]; rfl)⟩
    · cases hx
  · exact hk
theorem GdX.block (g : GdX X Z n k G) : X.env.blockKind = .function := by
  unfold Env.blockKind
  rw [g.sc, g.kd]
  rfl

/-! ### operations -/
theorem few1 {e : Expr} (h : plain e = true) (cp : Pos) (env : Env) : ((backTo cp (starEach [e] env)).all (fun x => !x.1) && (backToKw cp (keywordEach [] env)).all (fun x => x.1.isSome) && decide ([e].length + ([] : List Keyword).length + (if ([] : List Keyword).isEmpty then 0 else 1) < 30)) = true := by
  rw [plain_star h]
  rfl
theorem few2 {e f : Expr} (h : plain e = true) (h2 : plain f = true) (cp : Pos) (env : Env) : ((backTo cp (starEach [e, f] env)).all (fun x => !x.1) && (backToKw cp (keywordEach [] env)).all (fun x => x.1.isSome) && decide ([e, f].length + ([] : List Keyword).length + (if ([] : List Keyword).isEmpty then 0 else 1) < 30)) = true := by
  rw [plain_star h, plain_star h2]
  rfl
theorem pe_method {T id : String} {name : Str} {o e : Expr} {to te : TE} {r : V → List V → Hp → VK → Prop} {ap cp : Pos} (pa : PlainAttrs T) (slot : Slot T name id) (hty : typeOf (.builtin id) = pure (.type "method_descriptor")) (hm : MtR X id r) (ho : PE X o to) (he : PE X e te)
    (po : plain o = true) (pl : plain e = true) (hl : (ap.endLine == cp.line) = true) : PE X (.Call (.Attribute o name ap) [e] [] cp) (tBM (X.kw G) T r to (tCons te tNil)) :=
  pe_bm pa slot hty hm ho (pa_cons he pa_nil (plain_star pl [] X.env)) (plain_base po name X.env _) (few1 pl cp X.env) hl (plain_star pl [] X.env) rfl
theorem snd2 (g : GdX X Z n k G) {op : K2} {e ea eb : Expr} {ia ib : E} (hs : shape2 Z op e = some (ea, eb)) (pa : plain ea = true) (pb : plain eb = true) (ha : PE X ea (rdE (X.kw G) Z.pro (run (Phi Z.T n k) ia))) (hb : PE X eb (rdE (X.kw G) Z.pro (run (Phi Z.T n k) ib))) :
    PE X e (rdE (X.kw G) Z.pro (run (Phi Z.T n k) (.op2 op ia ib))) := by
  have hu := g.room.units
  unfold shape2 at hs
  split at hs
  · cases hs
    exact PE.imp (pe_op ok_add ha hb) fun σ H Q h => imp_op2 h
  · cases hs
    exact PE.imp (pe_op ok_sub ha hb) fun σ H Q h => imp_op2 h
  · cases hs
    exact PE.imp (pe_op ok_mul ha hb) fun σ H Q h => imp_op2 h
  · cases hs
    exact PE.imp (pe_op ok_div ha hb) fun σ H Q h => imp_op2 h
  · cases hs
    exact PE.imp (pe_op ok_mod ha hb) fun σ H Q h => imp_op2 h
  · cases hs
    exact PE.imp (pe_op ok_pow ha hb) fun σ H Q h => imp_op2 h
  · cases hs
    exact PE.imp (pe_cmpR (ok_eq hu) ha hb (plain_mark pb _)) fun σ H Q h => imp_op2 h
  · cases hs
    exact PE.imp (pe_cmpR (ok_ne hu) ha hb (plain_mark pb _)) fun σ H Q h => imp_op2 h
  · cases hs
    exact PE.imp (pe_cmpR ok_lt ha hb (plain_mark pb _)) fun σ H Q h => imp_op2 h
  · cases hs
    exact PE.imp (pe_cmpR ok_le ha hb (plain_mark pb _)) fun σ H Q h => imp_op2 h
  · cases hs
    exact PE.imp (pe_cmpR ok_gt ha hb (plain_mark pb _)) fun σ H Q h => imp_op2 h
  · cases hs
    exact PE.imp (pe_cmpR ok_ge ha hb (plain_mark pb _)) fun σ H Q h => imp_op2 h
  · cases hs
    exact PE.imp (pe_cmpR ok_is ha hb (plain_mark pb _)) fun σ H Q h => imp_op2 h
  · cases hs
    exact PE.imp (pe_cmpR ok_isNot ha hb (plain_mark pb _)) fun σ H Q h => imp_op2 h
  · cases hs
    exact PE.imp (pe_cmpR (ok_in hu) ha hb (plain_mark pb _)) fun σ H Q h => imp_op2 h
  · cases hs
    exact PE.imp (pe_cmpR (ok_notIn hu) ha hb (plain_mark pb _)) fun σ H Q h => imp_op2 h
  · cases hs
    exact PE.imp (pe_ix (ok_at hu) ha hb (plain_ix pb)) fun σ H Q h => imp_op2 h
  · split at hs
    · rename_i hc
      cases hs
      rw [Bool.and_eq_true] at hc
      obtain ⟨h1, h2⟩ := hc
      have h1 := of_decide_eq_true h1
      subst h1
      exact PE.imp (pe_method PySem.F.plainAttrs_str PySem.F.slot_str_index PySem.F.type_str_index ok_index ha hb pa pb h2) fun σ H Q h => imp_meth (fun _ => rfl) h
    · cases hs
  · split at hs
    · rename_i hc
      cases hs
      rw [Bool.and_eq_true] at hc
      obtain ⟨h1, h2⟩ := hc
      have h1 := of_decide_eq_true h1
      subst h1
      exact PE.imp (pe_method PySem.F.plainAttrs_str PySem.F.slot_str_join PySem.F.type_str_join ok_join ha hb pa pb h2) fun σ H Q h => imp_meth (fun _ => rfl) h
    · cases hs
  · split at hs
    · rename_i hc
      cases hs
      obtain ⟨rfl, g1⟩ := g.glob hc
      exact PE.imp (pe_callB (ok_min2 g.calm) g1 (g.bi _ (by decide)) (by decide +kernel) (pa_cons ha (pa_cons hb pa_nil (plain_star pb [] X.env)) (plain_star pa _ X.env)) (by decide) (by decide) (plain_star pa _ X.env) (by rw [plain_star pb [] X.env]; rfl)) fun σ H Q h => imp_call2 h
    · cases hs
  · split at hs
    · rename_i hc
      cases hs
      obtain ⟨rfl, g1⟩ := g.glob hc
      exact PE.imp (pe_callB (ok_max2 g.calm) g1 (g.bi _ (by decide)) (by decide +kernel) (pa_cons ha (pa_cons hb pa_nil (plain_star pb [] X.env)) (plain_star pa _ X.env)) (by decide) (by decide) (plain_star pa _ X.env) (by rw [plain_star pb [] X.env]; rfl)) fun σ H Q h => imp_call2 h
    · cases hs
  · cases hs
    exact PE.imp (pe_op ok_bor ha hb) fun σ H Q h => imp_op2 h
  · split at hs
    · rename_i hc
      cases hs
      rw [Bool.and_eq_true] at hc
      obtain ⟨rfl, g1⟩ := g.glob hc.1
      obtain ⟨rfl, g2⟩ := g.glob hc.2
      exact PE.imp (pe_lzip g.calm g1 (g.bi _ (by decide)) g2 (g.bi _ (by decide)) (pa_cons ha (pa_cons hb pa_nil (plain_star pb [] X.env)) (plain_star pa _ X.env)) (plain_star pa _ X.env) (by rw [plain_star pb [] X.env]; rfl)) fun σ H Q h => imp_lzip h
    · cases hs
  · cases hs
theorem snd1 (g : GdX X Z n k G) {op : K1} {e ea : Expr} {ia : E} (hs : shape1 Z op e = some ea) (pa : plain ea = true) (ha : PE X ea (rdE (X.kw G) Z.pro (run (Phi Z.T n k) ia))) :
    PE X e (rdE (X.kw G) Z.pro (run (Phi Z.T n k) (.op1 op ia))) := by
  have st : ∀ (xs : List Expr), starEach (ea :: xs) X.env = (false, eval ea X.env) :: starEach xs X.env := fun xs => plain_star pa xs X.env
  have arg : PA X [ea] (tCons (rdE (X.kw G) Z.pro (run (Phi Z.T n k) ia)) tNil) := pa_cons ha pa_nil (st [])
  have isi : ∀ (t : String) (x y : Str) (p q r : Pos), glob1 Z x "isinstance" = true → glob1 Z y (Str.ofString t) = true → X.mg (Str.ofString t) = none → bootBuiltins (Str.ofString t) = some (.type t) → (Str.ofString t) ≠ "__name__" → ((Str.ofString t) == ("__debug__" : Str)) = false →
      PE X (.Call (.Name x p) [ea, .Name y q] [] r) (rdE (X.kw G) Z.pro (run (Phi Z.T n k) (.op1 (.isi t) ia))) := by
    intro t x y p q r h1 h2 hm hb hn hd
    obtain ⟨rfl, g1⟩ := g.glob h1
    obtain ⟨rfl, g2⟩ := g.glob h2
    refine PE.imp (pe_callB (ok_isi t) g1 (g.bi _ (by decide)) (by decide +kernel) (pa_cons ha (pa_cons (pe_bltn (v := .ty t) g2 hm hb rfl hn hd) pa_nil rfl) (st _)) (by decide) (by decide) (st _) rfl) fun σ H Q h => imp_isi h
  unfold shape1 at hs
  split at hs
  · split at hs
    · rename_i hc
      cases hs
      obtain ⟨rfl, g1⟩ := g.glob hc
      exact PE.imp (pe_callB ok_len g1 (g.bi _ (by decide)) (by decide +kernel) arg (by decide) (by decide) (st _) rfl) fun σ H Q h => imp_call1 h
    · cases hs
  · split at hs
    · rename_i hc
      cases hs
      obtain ⟨rfl, g1⟩ := g.glob hc
      exact PE.imp (pe_callTy ok_int g1 (g.bi _ (by decide)) (by decide +kernel) arg (by decide) (by decide) (st _) rfl) fun σ H Q h => imp_call1 h
    · cases hs
  · split at hs
    · rename_i hc
      cases hs
      rw [Bool.and_eq_true] at hc
      obtain ⟨rfl, g1⟩ := g.glob hc.1
      obtain ⟨rfl, g2⟩ := g.glob hc.2
      exact PE.imp (pe_listRg g.calm g1 (g.bi _ (by decide)) (prg_1 g2 (g.bi _ (by decide)) ha (st []))) fun σ H Q h => imp_lrg h
    · cases hs
  · split at hs
    · rename_i hc
      cases hs
      obtain ⟨rfl, g1⟩ := g.glob hc
      exact PE.imp (pe_callTy (ok_list g.calm) g1 (g.bi _ (by decide)) (by decide +kernel) arg (by decide) (by decide) (st _) rfl) fun σ H Q h => imp_call1 h
    · cases hs
  · split at hs
    · rename_i hc
      cases hs
      obtain ⟨rfl, g1⟩ := g.glob hc
      exact PE.imp (pe_callTy ok_tuple g1 (g.bi _ (by decide)) (by decide +kernel) arg (by decide) (by decide) (st _) rfl) fun σ H Q h => imp_call1 h
    · cases hs
  · split at hs
    · rename_i hc
      cases hs
      obtain ⟨rfl, g1⟩ := g.glob hc
      exact PE.imp (pe_callB (ok_sorted g.calm) g1 (g.bi _ (by decide)) (by decide +kernel) arg (by decide) (by decide) (st _) rfl) fun σ H Q h => imp_call1 h
    · cases hs
  · split at hs
    · rename_i hc
      cases hs
      rw [Bool.and_eq_true] at hc
      exact isi "bool" _ _ _ _ _ hc.1 hc.2 (g.bi "bool" (by decide)) (by decide +kernel) (by decide) (by decide)
    · cases hs
  · split at hs
    · rename_i hc
      cases hs
      rw [Bool.and_eq_true] at hc
      exact isi "int" _ _ _ _ _ hc.1 hc.2 (g.bi "int" (by decide)) (by decide +kernel) (by decide) (by decide)
    · cases hs
  · split at hs
    · rename_i hc
      cases hs
      rw [Bool.and_eq_true] at hc
      exact isi "str" _ _ _ _ _ hc.1 hc.2 (g.bi "str" (by decide)) (by decide +kernel) (by decide) (by decide)
    · cases hs
  · split at hs
    · rename_i hc
      cases hs
      rw [Bool.and_eq_true] at hc
      exact isi "list" _ _ _ _ _ hc.1 hc.2 (g.bi "list" (by decide)) (by decide +kernel) (by decide) (by decide)
    · cases hs
  · split at hs
    · rename_i hc
      cases hs
      rw [Bool.and_eq_true] at hc
      exact isi "tuple" _ _ _ _ _ hc.1 hc.2 (g.bi "tuple" (by decide)) (by decide +kernel) (by decide) (by decide)
    · cases hs
  · cases hs
    exact PE.imp (pe_un un_neg ha) fun σ H Q h => imp_neg h
  · split at hs
    · rename_i hc
      cases hs
      rw [Bool.and_eq_true] at hc
      obtain ⟨rfl, g1⟩ := g.glob hc.1
      obtain ⟨rfl, g2⟩ := g.glob hc.2
      exact PE.imp (pe_callB (cr_sortSS g.calm) g1 (g.bi _ (by decide)) (by decide +kernel) (pa_cons (pe_callTy (cr_setS g.calm) g2 (g.bi _ (by decide)) (by decide +kernel) arg (by decide) (by decide) (st _) rfl) pa_nil rfl) (by decide) (by decide) rfl rfl) fun σ H Q h => imp_sset h
    · cases hs
  · split at hs
    · rename_i hc
      cases hs
      obtain ⟨rfl, g1⟩ := g.glob hc
      exact PE.imp (pe_callB ok_abs g1 (g.bi _ (by decide)) (by decide +kernel) arg (by decide) (by decide) (st _) rfl) fun σ H Q h => imp_call1 h
    · cases hs
  · split at hs
    · rename_i hc
      cases hs
      obtain ⟨rfl, g1⟩ := g.glob hc
      exact PE.imp (pe_callB (ok_sum g.calm) g1 (g.bi _ (by decide)) (by decide +kernel) arg (by decide) (by decide) (st _) rfl) fun σ H Q h => imp_call1 h
    · cases hs
  · split at hs
    · rename_i hc
      cases hs
      obtain ⟨rfl, g1⟩ := g.glob hc
      exact PE.imp (pe_callB (ok_all g.calm) g1 (g.bi _ (by decide)) (by decide +kernel) arg (by decide) (by decide) (st _) rfl) fun σ H Q h => imp_call1 h
    · cases hs
  · split at hs
    · rename_i hc
      cases hs
      obtain ⟨rfl, g1⟩ := g.glob hc
      exact PE.imp (pe_callB (ok_maxL g.calm) g1 (g.bi _ (by decide)) (by decide +kernel) arg (by decide) (by decide) (st _) rfl) fun σ H Q h => imp_call1 h
    · cases hs
  · split at hs
    · rename_i hc
      cases hs
      obtain ⟨rfl, g1⟩ := g.glob hc
      exact PE.imp (pe_callB (ok_minL g.calm) g1 (g.bi _ (by decide)) (by decide +kernel) arg (by decide) (by decide) (st _) rfl) fun σ H Q h => imp_call1 h
    · cases hs
  · split at hs
    · rename_i hc
      cases hs
      rw [Bool.and_eq_true] at hc
      obtain ⟨rfl, g1⟩ := g.glob hc.1
      obtain ⟨rfl, g2⟩ := g.glob hc.2
      exact PE.imp (pe_callB cr_lenI g1 (g.bi _ (by decide)) (by decide +kernel) (pa_cons (pe_callTy (cr_setI g.calm) g2 (g.bi _ (by decide)) (by decide +kernel) arg (by decide) (by decide) (st _) rfl) pa_nil rfl) (by decide) (by decide) rfl rfl) fun σ H Q h => imp_lset h
    · cases hs
  · split at hs
    · rename_i hc
      cases hs
      obtain ⟨rfl, g1⟩ := g.glob hc
      exact PE.imp (pe_callTy (ok_dctP g.calm) g1 (g.bi _ (by decide)) (by decide +kernel) arg (by decide) (by decide) (st _) rfl) fun σ H Q h => imp_call1 h
    · cases hs
  · cases hs
end
end Dl

/-! D8: the text does what its term says. -/
namespace Dl
open PySem PySem.Spec PyProof.Rows L2

theorem and2 {a b : Bool} (h : (a && b) = true) : a = true ∧ b = true := Bool.and_eq_true_iff.mp h
theorem runL_len {W : Wd} : ∀ (es : Es) (r : Rho) (ds : List Dat) (r' : Rho) (Z : Sx) (xs : List Expr), chkL Z es xs = true → runL W es r = some (ds, r') → ds.length = xs.length
  | .nil, r, ds, r', Z, xs, hc, h => by
    unfold chkL at hc
    unfold runL at h
    cases h
    split at hc
    · rfl
    · cases hc
  | .cons e es, r, ds, r', Z, xs, hc, h => by
    unfold chkL at hc
    unfold runL at h
    obtain ⟨⟨oa, r1⟩, ha, h⟩ := bindS h
    obtain ⟨⟨d, r2⟩, hd, h⟩ := bindS h
    obtain ⟨⟨ds', r3⟩, he, h⟩ := bindS h
    cases h
    split at hc
    · rw [List.length_cons, List.length_cons, runL_len es r2 ds' _ Z _ (and2 hc).2 he]
    · cases hc
theorem small_line {n : Nat} (h : n ≤ 1000) : n ≤ sizeLine := Nat.le_of_lt (small1000 h)
theorem pw_of {X : Cx} {op : BoolOp} {vs : List Expr} {p : Pos} {t : TT} (h : PT X (.BoolOp op vs p) t) : PW X (.BoolOp op vs p) t := ⟨fun _ pins s σ H Q I q => h.run pins s σ H Q I q⟩
theorem sndCmp {X : Cx} {Z : Sx} {n k : Nat} {G : CK} (g : GdX X Z n k G) {op : K2} {e ea eb : Expr} {ia ib : E} (hc : cmpB op = true) (hs : shape2 Z op e = some (ea, eb)) (pb : plain eb = true) (ha : PE X ea (rdE (X.kw G) Z.pro (run (Phi Z.T n k) ia))) (hb : PE X eb (rdE (X.kw G) Z.pro (run (Phi Z.T n k) ib))) :
    PT X e (rdT (X.kw G) Z.pro (runT (Phi Z.T n k) (.cmp op ia ib))) := by
  have hu := g.room.units
  unfold shape2 at hs
  split at hs
  · cases hc
  · cases hc
  · cases hc
  · cases hc
  · cases hc
  · cases hc
  · cases hs
    exact PT.imp (pt_cmpR (ok_eq hu) ha hb (plain_mark pb _)) fun σ H Q h => imp_tcmp h
  · cases hs
    exact PT.imp (pt_cmpR (ok_ne hu) ha hb (plain_mark pb _)) fun σ H Q h => imp_tcmp h
  · cases hs
    exact PT.imp (pt_cmpR ok_lt ha hb (plain_mark pb _)) fun σ H Q h => imp_tcmp h
  · cases hs
    exact PT.imp (pt_cmpR ok_le ha hb (plain_mark pb _)) fun σ H Q h => imp_tcmp h
  · cases hs
    exact PT.imp (pt_cmpR ok_gt ha hb (plain_mark pb _)) fun σ H Q h => imp_tcmp h
  · cases hs
    exact PT.imp (pt_cmpR ok_ge ha hb (plain_mark pb _)) fun σ H Q h => imp_tcmp h
  · cases hs
    exact PT.imp (pt_cmpR ok_is ha hb (plain_mark pb _)) fun σ H Q h => imp_tcmp h
  · cases hs
    exact PT.imp (pt_cmpR ok_isNot ha hb (plain_mark pb _)) fun σ H Q h => imp_tcmp h
  · cases hs
    exact PT.imp (pt_cmpR (ok_in hu) ha hb (plain_mark pb _)) fun σ H Q h => imp_tcmp h
  · cases hs
    exact PT.imp (pt_cmpR (ok_notIn hu) ha hb (plain_mark pb _)) fun σ H Q h => imp_tcmp h
  · cases hc
  · cases hc
  · cases hc
  · cases hc
  · cases hc
  · cases hs
    cases hc
  · cases hc
  · cases hs
/-- a def's answer is that of a def of the text -/
theorem phi_len {T : List (Str × Df)} {n k : Nat} {f : Str} {D : Df} (h : T.lookup f = some D) (ds : List Dat) (x : Out × Dat) (hp : (Phi T n k).phi f ds = some x) : ds.length = D.ps := by
  cases k with
  | zero => cases hp
  | succ k =>
    have hp : (match T.lookup f with | some D => runD (Phi T n k) n D ds | none => none) = some x := hp
    rw [h] at hp
    have hp : runD (Phi T n k) n D ds = some x := hp
    unfold runD at hp
    split at hp
    · assumption
    · cases hp
theorem phi_io {T : List (Str × Df)} {n k : Nat} {f : Str} {D : Df} (h : T.lookup f = some D) : (Phi T n k).io f = some D.io := by
  cases k with
  | zero => show (T.lookup f).map (·.io) = _; rw [h]; rfl
  | succ k => show (T.lookup f).map (·.io) = _; rw [h]; rfl

theorem plains_any : ∀ (es : Es) (Z : Sx) (zs : List Expr), chkL Z es zs = true → ∀ (env : Env) (cp : Pos), (backTo cp (starEach zs env)).any (·.1) = false
  | .nil, Z, zs, h, _, _ => by
    unfold chkL at h
    split at h
    · rfl
    · cases h
  | .cons e es, Z, zs, h, env, cp => by
    unfold chkL at h
    split at h
    · have h1 := and2 h
      have ih := plains_any es Z _ h1.2 env cp
      rw [plain_star (and2 h1.1).2]
      exact ih
    · cases h
theorem chkP_all (Z : Sx) : ∀ (es : Es) (ks : List (Option Expr)) (vs : List Expr), chkP Z es ks vs = true → ks.all (·.isSome) = true ∧ ks.length = vs.length ∧ evenE es = true ∧ (es = .nil ∨ ks ≠ [])
  | .nil, ks, vs, h => by
    unfold chkP at h
    split at h
    · exact ⟨rfl, rfl, rfl, .inl rfl⟩
    · cases h
  | .cons _ .nil, ks, vs, h => by
    unfold chkP at h
    cases h
  | .cons k (.cons v es), ks, vs, h => by
    unfold chkP at h
    split at h
    · obtain ⟨h1, h2, h3, _⟩ := chkP_all Z es _ _ (and2 h).2
      refine ⟨by rw [List.all_cons, h1]; rfl, by rw [List.length_cons, List.length_cons, h2], h3, .inr (by simp)⟩
    · cases h
/-! ### functions that are handed about -/
mutual
theorem Den.kw {K K' : Kw} {F : Hp} (hK : K.K = K'.K) (hw : K.w = K'.w) : ∀ (d : Dat) {v : V}, noFn d = true → Den K F d v → Den K' F d v
  | .non, _, _, h => h
  | .bl _, _, _, h => h
  | .int _, _, _, h => h
  | .str _, _, _, h => h
  | .tup ds, _, n, ⟨a, xs, e, q, l, r⟩ => ⟨a, xs, e, by rw [← hK]; exact q, l, DenL.kw hK hw ds (by unfold noFn at n; exact n) r⟩
  | .lst ds, _, n, ⟨a, xs, e, q, l, r⟩ => ⟨a, xs, e, by rw [← hK]; exact q, l, DenL.kw hK hw ds (by unfold noFn at n; exact n) r⟩
  | .dct ks vs, _, n, ⟨a, u, ws, zs, e, q, l, r1, r2⟩ => by
    unfold noFn at n
    rw [Bool.and_eq_true] at n
    refine ⟨a, u, ws, zs, e, q, ?_, DenL.kw hK hw ks n.1 r1, DenL.kw hK hw vs n.2 r2⟩
    unfold DOk at l ⊢
    rw [← hw]
    exact l
  | .fn _ _, _, n, _ => by unfold noFn at n; cases n
theorem DenL.kw {K K' : Kw} {F : Hp} (hK : K.K = K'.K) (hw : K.w = K'.w) : ∀ (ds : List Dat) {xs : List V}, noFns ds = true → DenL K F ds xs → DenL K' F ds xs
  | [], _, _, h => h
  | d :: ds, _, n, ⟨v, vs, e, h, r⟩ => by
    unfold noFns at n
    rw [Bool.and_eq_true] at n
    exact ⟨v, vs, e, Den.kw hK hw d n.1 h, DenL.kw hK hw ds n.2 r⟩
end
theorem TabsK.kw {K K' : Kw} {F H : Hp} (hn : K.G.nm = K'.G.nm) (ht : K.G.tbs = K'.G.tbs) (h : TabsK K F H) : TabsK K' F H := fun P hP => by
  obtain ⟨h1, ps, h2, h3, h4⟩ := h P (by unfold CK.tb at hP ⊢; rw [ht]; exact hP)
  exact ⟨h1, ps, h2, h3, fun pos cv hc => by rw [← hn]; exact h4 pos cv hc⟩
theorem OutsOk.denL {A : Fr} {r : Rho} {F : Hp} {σ : L2.St} {H : Hp} : ∀ {os : List Out} {ds : List Dat} {vs : List V}, (∀ o ∈ os, ∃ d, o = .val d) → resAll r os = some ds → OutsOk A r F σ H os vs → DenL A.K F ds vs
  | [], ds, vs, _, e, h => by cases e; exact h
  | o :: os, ds, vs, hv, e, ⟨v, ws, ev, h1, h2⟩ => by
    subst ev
    unfold resAll at e
    obtain ⟨d, hd, e⟩ := bindS e
    obtain ⟨ds', hds, e⟩ := bindS e
    cases e
    obtain ⟨d', rfl⟩ := hv o List.mem_cons_self
    cases hd
    exact ⟨v, ws, rfl, h1, OutsOk.denL (fun o ho => hv o (List.mem_cons_of_mem _ ho)) hds h2⟩
/-- what came back from a function, as the caller sees it -/
theorem post_new {K K0 : Kw} {F H F' H' : Hp} {vs : List V} {o : Out} {d : Dat} {v : V} (hn : K0.G.nm = K.G.nm) (ht : K0.G.tbs = K.G.tbs) (po : PostOk K0 none F H vs o d v F' H') : New K F H F' H' := by
  have nio : ∀ b, ¬ IoA none vs b := fun b z => by obtain ⟨i, e, _⟩ := z; cases e
  refine ⟨po.ff, po.fh, fun b u e nt => po.keep b u e ?_ (nio b), po.newf, fun _ => po.tab.kw hn ht⟩
  unfold CK.tb at nt ⊢
  rw [ht]
  exact nt
theorem imp_callF {X : Cx} {G : CK} {k i : Nat} {es : Es} {pro : List Nat} {W : Wd} {σ : L2.St} {H : Hp} {Q : VK} (hck : ∀ F v c env, G.ck F v c env → k = 0 ∨ CloK X G k (W.phi (cloKey c)) F v env) (hk : k = 0 → ∀ f ds, W.phi f ds = none)
    (h : rdE (X.kw G) pro (run W (.callF i es)) σ H Q) : tCallF X k i (rdA (X.kw G) pro (runA W es none)) σ H Q := by
  obtain ⟨A, r, F, o, r', ok, fit, hm, q⟩ := h
  unfold run at hm
  obtain ⟨s, hs, hm⟩ := bindS hm
  split at hm
  · rename_i c env
    obtain ⟨⟨os, r1⟩, ha, hm⟩ := bindS hm
    obtain ⟨ds, hd, hm⟩ := bindS hm
    split at hm
    · rename_i nf
      obtain ⟨⟨oz, dz⟩, hp, hm⟩ := bindS hm
      obtain ⟨x, rfl, nx, rfl, rfl⟩ : ∃ x, oz = .val x ∧ noFn x = true ∧ o = .val x ∧ r' = r1 := by
        cases oz with
        | val x =>
          have hm : (if noFn x = true then some (Out.val x, r1) else none) = some (o, r') := hm
          split at hm
          · rename_i nx
            cases hm
            exact ⟨x, rfl, nx, rfl, rfl⟩
          · cases hm
        | fresh x => cases hm
        | place x => cases hm
      obtain ⟨v, e1, e2⟩ := fit.slot i _ (look_some hs)
      have e2 : A.K.G.ck F v c env := e2
      rw [ok.k] at e2
      rcases hck F v c env e2 with hz | ⟨G0, f, C, fr, ws, np, g1, g2, rfl, g3, g4, g5, g6, g7, g8, g9⟩
      · rw [hk hz] at hp
        cases hp
      · refine ⟨f, C, e1, fit.sub _ _ g3, A, r, F, os, r', ok, fit, ha, fun vs F1 H1 s1 f1 k1 => ⟨fr, ws.map some, _, f1.sub _ _ (s1 _ _ g3), f1.sub _ _ (s1 _ _ g4), g5, g6, g7, ws, rfl, by have := g5.len; rw [List.length_map] at this; exact this, ?_⟩⟩
        have dl := OutsOk.denL (vals_of_none es r os r' ha) hd k1
        rw [ok.k] at dl
        have da : DenL (X.kw G0) F1 (ds ++ env) (vs ++ ws) := DenL.app (DenL.kw (K := X.kw G) (K' := X.kw G0) rfl rfl ds nf dl) (DenL.mono s1 _ g8)
        have hl := g9 _ _ hp
        have tb : TabsK (X.kw G0) F1 H1 := by
          have := f1.tab
          rw [ok.k] at this
          exact this.kw g1.symm g2.symm
        refine ⟨F1, ds ++ env, _, dz, hp, ⟨f1.sub, by rw [← DenL.length da]; exact hl, hl, fun j d u hj hu _ => ?_, (fun _ _ _ _ _ z => nomatch z), tb⟩, fun u F' H' po => ?_⟩
        · obtain ⟨y, hy, dy⟩ := DenL.getD da hj
          rw [hu] at hy
          cases hy
          exact dy
        · have nw : New A.K F1 H1 F' H' := by
            rw [ok.k]
            exact post_new g1 g2 po
          refine q u F' H' (s1.trans po.ff) (f1.grow nw) ?_
          show Den A.K F' x u
          rw [ok.k]
          exact Den.kw (K := X.kw G0) (K' := X.kw G) rfl rfl x nx po.res
    · cases hm
  · cases hm
mutual
theorem sndE : ∀ (e : E) {X : Cx} {Z : Sx} {n k : Nat} {G : CK} (g : GdX X Z n k G) (x : Expr), chkE Z e x = true → PE X x (rdE (X.kw G) Z.pro (run (Phi Z.T n k) e))
  | .var i, X, Z, n, k, G, g, x, h => by
    unfold chkE at h
    split at h
    · exact PE.imp (g.pvar h) fun σ H Q q => imp_var q
    all_goals cases h
  | .non, X, Z, n, k, G, g, x, h => by
    unfold chkE at h
    split at h
    · exact PE.imp pe_non fun σ H Q q => imp_c (d := .non) (fun r => by unfold run; rfl) (fun _ _ => rfl) q
    all_goals cases h
  | .bl b, X, Z, n, k, G, g, x, h => by
    unfold chkE at h
    split at h
    · rename_i c _ _
      have h : b = c := by simpa using h
      subst h
      exact PE.imp pe_bl fun σ H Q q => imp_c (d := .bl b) (fun r => by unfold run; rfl) (fun _ _ => rfl) q
    all_goals cases h
  | .int m, X, Z, n, k, G, g, x, h => by
    unfold chkE at h
    split at h
    · have h := of_decide_eq_true h
      subst h
      exact PE.imp pe_int fun σ H Q q => imp_c (d := .int m) (fun r => by unfold run; rfl) (fun _ _ => rfl) q
    all_goals cases h
  | .str z, X, Z, n, k, G, g, x, h => by
    unfold chkE at h
    split at h
    · have h1 := of_decide_eq_true (and2 h).1
      have h2 := of_decide_eq_true (and2 h).2
      subst h1
      exact PE.imp pe_str fun σ H Q q => imp_c (d := .str z) (fun r => by unfold run; rfl) (fun _ _ => ⟨rfl, small_line h2⟩) q
    all_goals cases h
  | .tup es, X, Z, n, k, G, g, x, h => by
    unfold chkE at h
    split at h
    · have h2 := of_decide_eq_true (and2 h).2
      exact PE.imp (pe_tup (sndL es g _ (and2 h).1)) fun σ H Q q => imp_tup (fun r ds r' hr => by rw [runL_len es r ds r' Z _ (and2 h).1 hr]; exact small_line h2) q
    all_goals cases h
  | .lst es, X, Z, n, k, G, g, x, h => by
    unfold chkE at h
    split at h
    · have h2 := of_decide_eq_true (and2 h).2
      exact PE.imp (pe_lst (sndL es g _ (and2 h).1)) fun σ H Q q => imp_lst (fun r ds r' hr => by rw [runL_len es r ds r' Z _ (and2 h).1 hr]; exact small_line h2) q
    all_goals cases h
  | .op1 op a, X, Z, n, k, G, g, x, h => by
    unfold chkE at h
    split at h
    · rename_i y hs
      exact snd1 g hs (and2 h).2 (sndE a g y (and2 h).1)
    · cases h
  | .op2 op a b, X, Z, n, k, G, g, x, h => by
    unfold chkE at h
    split at h
    · rename_i y z hs
      have h1 := and2 h
      have h2 := and2 h1.1
      have h3 := and2 h2.1
      exact snd2 g hs h2.2 h1.2 (sndE a g y h3.1) (sndE b g z h3.2)
    · cases h
  | .cut a lo hi, X, Z, n, k, G, g, x, h => by
    unfold chkE at h
    split at h
    · have h1 := and2 h
      have h2 := and2 h1.1
      exact PE.imp (pe_slice ok_cut (sndE a g _ h2.1) (sndO lo g _ h2.2) (sndO hi g _ h1.2)) fun σ H Q q => imp_cut q
    all_goals cases h
  | .rev a, X, Z, n, k, G, g, x, h => by
    unfold chkE at h
    split at h
    · have h1 := and2 h
      have h2 := of_decide_eq_true h1.2
      subst h2
      exact PE.imp (pe_revL (sndE a g _ h1.1)) fun σ H Q q => imp_rev q
    all_goals cases h
  | .and a b, X, Z, n, k, G, g, x, h => by
    unfold chkE at h
    split at h
    · have h1 := and2 h
      have h2 := h1.2
      split at h2
      · exact PE.imp (pe_andT (sndE a g _ h1.1) (pe_one (sndE b g _ h2))) fun σ H Q q => imp_and q
      · exact PE.imp (pe_andT (sndE a g _ h1.1) (sndE b g _ h2)) fun σ H Q q => imp_and q
    all_goals cases h
  | .or a b, X, Z, n, k, G, g, x, h => by
    unfold chkE at h
    split at h
    · have h1 := and2 h
      have h2 := h1.2
      split at h2
      · exact PE.imp (pe_orT (sndE a g _ h1.1) (pe_one (sndE b g _ h2))) fun σ H Q q => imp_or q
      · exact PE.imp (pe_orT (sndE a g _ h1.1) (sndE b g _ h2)) fun σ H Q q => imp_or q
    all_goals cases h
  | .not a, X, Z, n, k, G, g, x, h => by
    unfold chkE at h
    split at h
    · exact PE.imp (pe_notT (sndE a g _ h)) fun σ H Q q => imp_not q
    all_goals cases h
  | .ite t a b, X, Z, n, k, G, g, x, h => by
    unfold chkE at h
    split at h
    · have h1 := and2 h
      have h2 := and2 h1.1
      exact PE.imp (pe_ifExp (sndT t g _ h2.1) (sndE a g _ h2.2) (sndE b g _ h1.2)) fun σ H Q q => imp_ite q
    all_goals cases h
  | .call f es, X, Z, n, k, G, g, x, h => by
    unfold chkE at h
    split at h
    · rename_i y p z zs cp
      have h1 := and2 h
      have h2 := and2 h1.1
      have h3 := and2 h2.1
      have h4 := and2 h3.1
      have h5 := of_decide_eq_true h4.1
      subst h5
      obtain ⟨D, hD, hkd⟩ : ∃ D, Z.T.lookup f = some D ∧ D.kd = 0 := by
        have h9 := h1.2
        split at h9
        · rename_i D hD
          exact ⟨D, hD, of_decide_eq_true h9⟩
        · cases h9
      have hpl : plain z = true := by
        cases es with
        | nil => unfold chkL at h2; exact absurd h2.2 Bool.false_ne_true
        | cons e es =>
          have h6 := h2.2
          unfold chkL at h6
          exact (and2 (and2 h6).1).2
      have st := plain_star hpl zs X.env
      have hd : (f == ("__debug__" : Str)) = false := by
        have := h3.2
        rw [Bool.not_eq_true'] at this
        exact this
      rcases g.cal f D hD hkd with rfl | c
      · refine ⟨fun pins s σ H Q I q => ?_⟩
        obtain ⟨A, r, F, o, r', ok, fit, hm, _⟩ := q
        unfold run at hm
        obtain ⟨io, _, hm⟩ := bindS hm
        obtain ⟨_, _, hm⟩ := bindS hm
        obtain ⟨_, _, hm⟩ := bindS hm
        obtain ⟨_, hz, hm⟩ := bindS hm
        cases hz
      · obtain ⟨fa, fd, ps, hF, hm, kp, bd⟩ := c.ex
        exact PE.imp (pe_call hF g.room (g.gl h4.2) hm kp bd .nil pass0 (sndA es D.io g _ h2.2) hd st (by
          cases es with
          | nil => unfold chkL at h2; exact absurd h2.2 Bool.false_ne_true
          | cons e es =>
            have h6 := h2.2
            unfold chkL at h6
            exact plains_any es Z zs (and2 h6).2 X.env cp)) fun σ H Q q => imp_call (phi_io hD) (phi_len hD) q
    all_goals cases h
  | .callB f es, X, Z, n, k, G, g, x, h => by
    unfold chkE at h
    split at h
    · rename_i y p z zs cp
      have h1 := and2 h
      have h2 := and2 h1.1
      have h3 := and2 h2.1
      have h4 := and2 h3.1
      have h5 := of_decide_eq_true h4.1
      subst h5
      obtain ⟨D, hD, hi, hkd⟩ : ∃ D, Z.T.lookup f = some D ∧ D.io = none ∧ D.kd = 0 := by
        have h9 := h1.2
        split at h9
        · rename_i D hD
          have h9 := and2 h9
          exact ⟨D, hD, Option.isNone_iff_eq_none.mp h9.1, of_decide_eq_true h9.2⟩
        · cases h9
      have hpl : plain z = true := by
        cases es with
        | nil => unfold chkL at h2; exact absurd h2.2 Bool.false_ne_true
        | cons e es =>
          have h6 := h2.2
          unfold chkL at h6
          exact (and2 (and2 h6).1).2
      have st := plain_star hpl zs X.env
      have hd : (f == ("__debug__" : Str)) = false := by
        have := h3.2
        rw [Bool.not_eq_true'] at this
        exact this
      rcases g.cal f D hD hkd with rfl | c
      · refine ⟨fun pins s σ H Q I q => ?_⟩
        obtain ⟨A, r, F, o, r', ok, fit, hm, _⟩ := q
        unfold run at hm
        obtain ⟨io, _, hm⟩ := bindS hm
        split at hm
        · obtain ⟨_, _, hm⟩ := bindS hm
          obtain ⟨_, _, hm⟩ := bindS hm
          obtain ⟨_, hz, hm⟩ := bindS hm
          cases hz
        · cases hm
      · rw [hi] at c
        obtain ⟨fa, fd, ps, hF, hm, kp, bd⟩ := c.ex
        exact PE.imp (pe_call hF g.room (g.gl h4.2) hm kp bd .nil pass0 (sndH es g _ h2.2) hd st (by
          cases es with
          | nil => unfold chkL at h2; exact absurd h2.2 Bool.false_ne_true
          | cons e es =>
            have h6 := h2.2
            unfold chkL at h6
            exact plains_any es Z zs (and2 h6).2 X.env cp)) fun σ H Q q => imp_callB (by rw [phi_io hD, hi]) (phi_len hD) q
    all_goals cases h
  | .pop i a, X, Z, n, k, G, g, x, h => by
    unfold chkE at h
    split at h
    · have h1 := and2 h
      have h2 := and2 h1.1
      have h3 := and2 h2.1
      have h4 := and2 h3.1
      have h5 := of_decide_eq_true h4.2
      subst h5
      exact PE.imp (pe_method PySem.F.plainAttrs_list PySem.F.slot_list_pop PySem.F.type_list_pop mt_popAt (g.pvar h4.1) (sndE a g _ h2.2) rfl h1.2 h3.2) fun σ H Q q => imp_pop q
    all_goals cases h
  | .app i a, X, Z, n, k, G, g, x, h => by
    unfold chkE at h
    split at h
    · have h1 := and2 h
      have h2 := and2 h1.1
      have h3 := and2 h2.1
      have h4 := and2 h3.1
      have h5 := of_decide_eq_true h4.2
      subst h5
      exact PE.imp (pe_method PySem.F.plainAttrs_list PySem.F.slot_list_append PySem.F.type_list_append mt_append (g.pvar h4.1) (sndE a g _ h2.2) rfl h1.2 h3.2) fun σ H Q q => imp_app q
    all_goals cases h
  | .dct es, X, Z, n, k, G, g, x, h => by
    unfold chkE at h
    split at h
    · rename_i ks vs pos
      have h1 := and2 h
      obtain ⟨a1, a2, a3, a4⟩ := chkP_all Z es ks vs h1.1
      rcases a4 with rfl | a4
      · have h2 := h1.1
        unfold chkP at h2
        split at h2
        · exact PE.imp pe_dnewK fun σ H Q q => imp_dnew q
        · cases h2
      · have hu := g.room.units
        exact PE.imp (pe_dspD hu (sndP es g ks vs pos h1.1) a1 a2 a4 (of_decide_eq_true h1.2)) fun σ H Q q => imp_dct a3 q
    all_goals cases h
  | .setd i a b, X, Z, n, k, G, g, x, h => by
    unfold chkE at h
    split at h
    · have h1 := and2 h
      have h2 := and2 h1.1
      have h3 := and2 h2.1
      have h4 := and2 h3.1
      have h5 := and2 h4.1
      have h6 := and2 h5.1
      have h7 := of_decide_eq_true h6.2
      subst h7
      have hu := g.room.units
      exact PE.imp (pe_bmD PySem.F.slot_dict_setdefault PySem.F.type_dict_setdefault (mt_setd hu) (g.pvar h6.1) (pa_cons (sndE a g _ h4.2) (pa_cons (sndE b g _ h2.2) pa_nil (plain_star h1.2 _ X.env)) (plain_star h3.2 _ X.env)) (plain_base rfl _ X.env _) (few2 h3.2 h1.2 _ X.env) h5.2 (plain_star h3.2 _ X.env) (by rw [plain_star h1.2 [] X.env]; rfl)) fun σ H Q q => imp_setd q
    all_goals cases h
  | .ins i a b, X, Z, n, k, G, g, x, h => by
    unfold chkE at h
    split at h
    · have h1 := and2 h
      have h2 := and2 h1.1
      have h3 := and2 h2.1
      have h4 := and2 h3.1
      have h5 := and2 h4.1
      have h6 := and2 h5.1
      have h7 := of_decide_eq_true h6.2
      subst h7
      exact PE.imp (pe_bm (r := rIns) PySem.F.plainAttrs_list PySem.F.slot_list_insert PySem.F.type_list_insert mt_insert (g.pvar h6.1) (pa_cons (sndE a g _ h4.2) (pa_cons (sndE b g _ h2.2) pa_nil (plain_star h1.2 _ X.env)) (plain_star h3.2 _ X.env)) (plain_base rfl _ X.env _) (few2 h3.2 h1.2 _ X.env) h5.2 (plain_star h3.2 _ X.env) (by rw [plain_star h1.2 [] X.env]; rfl)) fun σ H Q q => imp_ins q
    all_goals cases h
  | .pop0 i, X, Z, n, k, G, g, x, h => by
    unfold chkE at h
    split at h
    · have h1 := and2 h
      have h2 := and2 h1.1
      have h7 := of_decide_eq_true h2.2
      subst h7
      exact PE.imp (pe_bm0 PySem.F.plainAttrs_list PySem.F.slot_list_pop PySem.F.type_list_pop mt_pop (g.pvar h2.1) (plain_base rfl _ X.env _) h1.2) fun σ H Q q => imp_pop0 q
    all_goals cases h
  | .ext i a, X, Z, n, k, G, g, x, h => by
    unfold chkE at h
    split at h
    · have h1 := and2 h
      have h2 := and2 h1.1
      have h3 := and2 h2.1
      have h4 := and2 h3.1
      have h5 := of_decide_eq_true h4.2
      subst h5
      exact PE.imp (pe_method PySem.F.plainAttrs_list PySem.F.slot_list_extend PySem.F.type_list_extend mt_extend (g.pvar h4.1) (sndE a g _ h2.2) rfl h1.2 h3.2) fun σ H Q q => imp_ext q
    all_goals cases h
  | .call0 f, X, Z, n, k, G, g, x, h => by
    unfold chkE at h
    split at h
    · have h1 := and2 h
      have h2 := and2 h1.1
      have h3 := and2 h2.1
      have h5 := of_decide_eq_true h3.1
      subst h5
      obtain ⟨D, hD, hi, hkd⟩ : ∃ D, Z.T.lookup f = some D ∧ D.io = none ∧ D.kd = 0 := by
        have h9 := h1.2
        split at h9
        · rename_i D hD
          have h9 := and2 h9
          exact ⟨D, hD, Option.isNone_iff_eq_none.mp h9.1, of_decide_eq_true h9.2⟩
        · cases h9
      have hd : (f == ("__debug__" : Str)) = false := by
        have := h2.2
        rw [Bool.not_eq_true'] at this
        exact this
      rcases g.cal f D hD hkd with rfl | c
      · refine ⟨fun pins s σ H Q I q => ?_⟩
        obtain ⟨A, r, F, o, r', ok, fit, hm, _⟩ := q
        unfold run at hm
        obtain ⟨io, _, hm⟩ := bindS hm
        split at hm
        · obtain ⟨_, hz, hm⟩ := bindS hm
          cases hz
        · cases hm
      · rw [hi] at c
        obtain ⟨fa, fd, ps, hF, hm, kp, bd⟩ := c.ex
        exact PE.imp (pe_call0 hF g.room (g.gl h3.2) hm kp bd .nil pass0 hd) fun σ H Q q => imp_call0 (by rw [phi_io hD, hi]) (phi_len hD) q
    all_goals cases h
  | .step a lo st, X, Z, n, k, G, g, x, h => by
    unfold chkE at h
    split at h
    · have h1 := and2 h
      have h2 := and2 h1.1
      exact PE.imp (pe_step (sndE a g _ h2.1) (sndO lo g _ h2.2) (sndE st g _ h1.2)) fun σ H Q q => imp_step q
    all_goals cases h
  | .callF i es, X, Z, n, k, G, g, x, h => by
    unfold chkE at h
    split at h
    · rename_i y p z zs cp
      have h1 := and2 h
      have h2 := and2 h1.1
      obtain ⟨hex, hck⟩ := g.hf h2.1
      have hpl : plain z = true := by
        cases es with
        | nil => have h3 := h1.2; unfold chkL at h3; exact absurd h3 Bool.false_ne_true
        | cons e es =>
          have h3 := h1.2
          unfold chkL at h3
          exact (and2 (and2 h3).1).2
      have hpa : (backTo cp (starEach zs X.env)).any (·.1) = false := by
        cases es with
        | nil => have h3 := h1.2; unfold chkL at h3; exact absurd h3 Bool.false_ne_true
        | cons e es =>
          have h3 := h1.2
          unfold chkL at h3
          exact plains_any es Z zs (and2 h3).2 X.env cp
      have hv := h2.2
      unfold varB at hv
      simp only [Bool.and_eq_true, Bool.not_eq_true'] at hv
      obtain ⟨⟨⟨v1, v2⟩, v3⟩, v4⟩ := hv
      exact PE.imp (pe_callF (k := k) (i := i) g.room hex (by rw [g.N]; exact of_decide_eq_true v1) (g.vis v2) (sndA es none g _ h1.2) v3 v4 (plain_star hpl _ _) hpa) fun σ H Q q => imp_callF hck (fun z f ds => by subst z; rfl) q
    · cases h
  | .bor e, X, Z, n, k, G, g, x, h => by
    unfold chkE at h
    exact PE.imp (sndE e g x h) fun σ H Q q => imp_bor q
  | .comp own tg src c elt, X, Z, n, k, G, g, x, h => by
    unfold chkE at h
    split at h
    · have h1 := and2 h
      have h2 := and2 h1.1
      have h3 := and2 h2.1
      have h4 := and2 h3.1
      have h5 := and2 h4.1
      have h6 := and2 h5.1
      have h7 := and2 h6.1
      have ho : ∀ i ∈ tgSlots tg, i ∈ own := fun i hi => of_decide_eq_true (List.all_eq_true.mp h2.2 i hi)
      have hp : ∀ i ∈ Z.pro, i ∉ own := fun i hi => by
        have := List.all_eq_true.mp h1.2 i hi
        simpa using this
      refine PE.imp (t := tLc (rdI (X.kw G) Z.pro (runI (Phi Z.T n k) src)) (gT (X.kw G) tg) (rdT (X.kw G) Z.pro (runOt (Phi Z.T n k) c)) (rdE (X.kw G) Z.pro (run (Phi Z.T n k) elt)) ((ownP Z.N own).map (·.2))) (pe_lc (own := ownP Z.N own) g.calm (by rw [g.N]; exact g.nd) (sndI src g _ h6.2) (by rw [g.N, g.sc]; exact blkOk_by h7.1)
        (fun s H C cl fp => (g.blk h7.1 s H C cl fp).tg h7.2) (fun s H C cl fp => sndOt c (g.blk h7.1 s H C cl fp) _ h4.2) (fun s H C cl fp => sndE elt (g.blk h7.1 s H C cl fp) _ h3.2) (fun x => plain_fold h5.2 X.env x)) fun σ H Q q => ?_
      rw [ownP_snd]
      exact imp_comp ho hp q
    all_goals cases h
theorem sndL : ∀ (es : Es) {X : Cx} {Z : Sx} {n k : Nat} {G : CK} (g : GdX X Z n k G) (xs : List Expr), chkL Z es xs = true → PA X xs (rdL (X.kw G) Z.pro (runL (Phi Z.T n k) es))
  | .nil, X, Z, n, k, G, g, xs, h => by
    unfold chkL at h
    split at h
    · exact PA.imp pa_nil fun σ H Q q => imp_nil q
    all_goals cases h
  | .cons e es, X, Z, n, k, G, g, xs, h => by
    unfold chkL at h
    split at h
    · have h1 := and2 h
      have h2 := and2 h1.1
      exact PA.imp (pa_cons (sndE e g _ h2.1) (sndL es g _ h1.2) (plain_star h2.2 _ X.env)) fun σ H Q q => imp_cons q
    all_goals cases h
theorem sndP : ∀ (es : Es) {X : Cx} {Z : Sx} {n k : Nat} {G : CK} (g : GdX X Z n k G) (ks : List (Option Expr)) (vs : List Expr) (pos : Pos), chkP Z es ks vs = true → PPs X pos ks vs (tprs (X.kw G) Z.pro (Phi Z.T n k) es)
  | .nil, X, Z, n, k, G, g, ks, vs, pos, h => by
    unfold chkP at h
    split at h
    · exact pps_nil
    · cases h
  | .cons _ .nil, X, Z, n, k, G, g, ks, vs, pos, h => by
    unfold chkP at h
    cases h
  | .cons a (.cons b es), X, Z, n, k, G, g, ks, vs, pos, h => by
    unfold chkP at h
    split at h
    · have h1 := and2 h
      have h2 := and2 h1.1
      exact pps_cons (sndE a g _ h2.1) (sndE b g _ h2.2) (sndP es g _ _ pos h1.2)
    · cases h
theorem sndA : ∀ (es : Es) (io : Option Nat) {X : Cx} {Z : Sx} {n k : Nat} {G : CK} (g : GdX X Z n k G) (xs : List Expr), chkL Z es xs = true → PA X xs (rdA (X.kw G) Z.pro (runA (Phi Z.T n k) es io))
  | .nil, io, X, Z, n, k, G, g, xs, h => by
    unfold chkL at h
    split at h
    · exact PA.imp pa_nil fun σ H Q q => imp_anil q
    all_goals cases h
  | .cons e es, io, X, Z, n, k, G, g, xs, h => by
    unfold chkL at h
    split at h
    · have h1 := and2 h
      have h2 := and2 h1.1
      cases io with
      | none => exact PA.imp (pa_cons (sndE e g _ h2.1) (sndA es none g _ h1.2) (plain_star h2.2 _ X.env)) fun σ H Q q => imp_acons_fz (.inl ⟨rfl, rfl⟩) q
      | some j =>
        cases j with
        | zero => exact PA.imp (pa_cons (sndE e g _ h2.1) (sndA es none g _ h1.2) (plain_star h2.2 _ X.env)) fun σ H Q q => imp_acons_io q
        | succ j => exact PA.imp (pa_cons (sndE e g _ h2.1) (sndA es (some j) g _ h1.2) (plain_star h2.2 _ X.env)) fun σ H Q q => imp_acons_fz (.inr ⟨j, rfl, rfl⟩) q
    all_goals cases h
theorem sndH : ∀ (es : Es) {X : Cx} {Z : Sx} {n k : Nat} {G : CK} (g : GdX X Z n k G) (xs : List Expr), chkL Z es xs = true → PA X xs (rdH (X.kw G) Z.pro (runP (Phi Z.T n k) es))
  | .nil, X, Z, n, k, G, g, xs, h => by
    unfold chkL at h
    split at h
    · exact PA.imp pa_nil fun σ H Q q => imp_hnil q
    all_goals cases h
  | .cons e es, X, Z, n, k, G, g, xs, h => by
    unfold chkL at h
    split at h
    · have h1 := and2 h
      have h2 := and2 h1.1
      exact PA.imp (pa_cons (sndE e g _ h2.1) (sndH es g _ h1.2) (plain_star h2.2 _ X.env)) fun σ H Q q => imp_hcons q
    all_goals cases h
theorem sndO : ∀ (e : Oe) {X : Cx} {Z : Sx} {n k : Nat} {G : CK} (g : GdX X Z n k G) (x : Option Expr), chkO Z e x = true → PO X x (rdO (X.kw G) Z.pro (runO (Phi Z.T n k) e))
  | .no, X, Z, n, k, G, g, x, h => by
    unfold chkO at h
    split at h
    · exact ⟨fun pins s σ H Q I q => po_none.run pins s σ H Q I (imp_no q)⟩
    all_goals cases h
  | .yes e, X, Z, n, k, G, g, x, h => by
    unfold chkO at h
    split at h
    · exact ⟨fun pins s σ H Q I q => (po_some (sndE e g _ h)).run pins s σ H Q I (imp_yes q)⟩
    all_goals cases h
theorem sndOt : ∀ (t : Ot) {X : Cx} {Z : Sx} {n k : Nat} {G : CK} (g : GdX X Z n k G) (xs : List Expr), chkOt Z t xs = true → PTs X xs (rdT (X.kw G) Z.pro (runOt (Phi Z.T n k) t))
  | .no, X, Z, n, k, G, g, xs, h => by
    unfold chkOt at h
    split at h
    · refine ⟨fun pins s σ H Q I q => pts_nil.run pins s σ H Q I ?_⟩
      obtain ⟨A, r, F, b, r', ok, fit, hm, q⟩ := q
      unfold runOt at hm
      cases hm
      exact q F H (Same.refl F) fit
    all_goals cases h
  | .yes t, X, Z, n, k, G, g, xs, h => by
    unfold chkOt at h
    split at h
    · refine ⟨fun pins s σ H Q I q => (pts_one (sndT t g _ h)).run pins s σ H Q I ?_⟩
      unfold runOt at q
      exact q
    all_goals cases h
theorem sndT : ∀ (t : T) {X : Cx} {Z : Sx} {n k : Nat} {G : CK} (g : GdX X Z n k G) (x : Expr), chkT Z t x = true → PT X x (rdT (X.kw G) Z.pro (runT (Phi Z.T n k) t))
  | .val e, X, Z, n, k, G, g, x, h => by
    unfold chkT at h
    have h1 := and2 h
    exact PT.imp (pt_truth (sndE e g x h1.2) (tru_is h1.1 X.env)) fun σ H Q q => imp_tval q
  | .cmp op a b, X, Z, n, k, G, g, x, h => by
    unfold chkT at h
    split at h
    · rename_i y z hs
      have h1 := and2 h
      have h2 := and2 h1.1
      have h3 := and2 h2.1
      have h4 := and2 h3.1
      exact sndCmp g h4.1 hs h1.2 (sndE a g y h4.2) (sndE b g z h3.2)
    · cases h
  | .not t, X, Z, n, k, G, g, x, h => by
    unfold chkT at h
    split at h
    · exact PT.imp (pt_not (sndT t g _ h)) fun σ H Q q => imp_tnot q
    all_goals cases h
  | .and a b, X, Z, n, k, G, g, x, h => by
    unfold chkT at h
    split at h
    · have h1 := and2 h
      have h2 := h1.2
      split at h2
      · exact PT.imp (pw_and (sndT a g _ h1.1) (pw_and1 (sndT b g _ h2))).pt fun σ H Q q => imp_tand q
      · exact PT.imp (pw_and (sndT a g _ h1.1) (pw_of (sndT b g _ h2))).pt fun σ H Q q => imp_tand q
    all_goals cases h
  | .or a b, X, Z, n, k, G, g, x, h => by
    unfold chkT at h
    split at h
    · have h1 := and2 h
      have h2 := h1.2
      split at h2
      · exact PT.imp (pw_or (sndT a g _ h1.1) (pw_or1 (sndT b g _ h2))).pt fun σ H Q q => imp_tor q
      · exact PT.imp (pw_or (sndT a g _ h1.1) (pw_of (sndT b g _ h2))).pt fun σ H Q q => imp_tor q
    all_goals cases h
theorem sndI : ∀ (s : Src) {X : Cx} {Z : Sx} {n k : Nat} {G : CK} (g : GdX X Z n k G) (x : Expr) {tg : Expr}, chkI Z s tg x = true → PI X tg x (rdI (X.kw G) Z.pro (runI (Phi Z.T n k) s))
  | .seq e, X, Z, n, k, G, g, x, tg, h => by
    unfold chkI at h
    exact pi_seq rfl (sndE e g x h)
  | .rng1 a, X, Z, n, k, G, g, x, tg, h => by
    unfold chkI at h
    split at h
    · have h1 := and2 h
      have h2 := and2 h1.1
      obtain ⟨rfl, g1⟩ := g.glob h2.1
      have st := plain_star h1.2 [] X.env
      exact ⟨fun pins s σ H R I q => (pi_range1 g1 (g.bi _ (by decide)) (pa_cons (sndE a g _ h2.2) pa_nil st) st).run pins s σ H R I (imp_rng1 q)⟩
    all_goals cases h
  | .rng2 a b, X, Z, n, k, G, g, x, tg, h => by
    unfold chkI at h
    split at h
    · have h1 := and2 h
      have h2 := and2 h1.1
      have h3 := and2 h2.1
      have h4 := and2 h3.1
      obtain ⟨rfl, g1⟩ := g.glob h4.1
      have st := plain_star h1.2 [] X.env
      exact ⟨fun pins s σ H R I q => (pi_range2 g1 (g.bi _ (by decide)) (pa_cons (sndE a g _ h4.2) (pa_cons (sndE b g _ h3.2) pa_nil st) (plain_star h2.2 _ X.env)) (by rw [plain_star h2.2, st]; rfl) st).run pins s σ H R I (imp_rng2 q)⟩
    all_goals cases h
  | .zip es, X, Z, n, k, G, g, x, tg, h => by
    unfold chkI at h
    split at h
    · have h1 := and2 h
      have h2 := and2 h1.1
      have h3 := and2 h2.1
      have h4 := and2 h3.1
      cases tg with
      | Tuple ts kk p =>
        obtain ⟨rfl, g1⟩ := g.glob h4.2
        exact ⟨fun pins s σ H R I q => (pi_zip2 g1 (g.bi _ (by decide)) (sndL es g _ h3.2) (plain_star h2.2 _ X.env) (by rw [plain_star h1.2 [] X.env]; rfl)).run pins s σ H R I (imp_zip q)⟩
      | _ => cases h4.1
    all_goals cases h
  | .enm es, X, Z, n, k, G, g, x, tg, h => by
    unfold chkI at h
    split at h
    · have h1 := and2 h
      have h2 := and2 h1.1
      have h3 := and2 h2.1
      cases tg with
      | Tuple ts kk p =>
        obtain ⟨rfl, g1⟩ := g.glob h3.2
        exact ⟨fun pins s σ H R I q => (pi_enum2 g1 (g.bi _ (by decide)) (sndL es g _ h2.2) (plain_star h1.2 _ X.env)).run pins s σ H R I (imp_enm q)⟩
      | _ => cases h3.1
    all_goals cases h
  | .rng3 es, X, Z, n, k, G, g, x, tg, h => by
    unfold chkI at h
    split at h
    · have h1 := and2 h
      have h2 := and2 h1.1
      have h3 := and2 h2.1
      have h4 := and2 h3.1
      obtain ⟨rfl, g1⟩ := g.glob h4.1
      exact ⟨fun pins s σ H R I q => (pi_range3 g1 (g.bi _ (by decide)) (sndL es g _ h4.2) (plain_star h3.2 _ X.env) (by rw [plain_star h2.2, plain_star h1.2]; rfl)).run pins s σ H R I (imp_rng3 q)⟩
    all_goals cases h
end
end Dl

/-! D9: statements, defs, the whole text. -/
namespace Dl
open PySem PySem.Spec PyProof.Rows L2

section
variable {X : Cx} {Z : Sx} {n k : Nat} {G : CK}
theorem noTup_sw {ts : List Expr} {kk : Nat} {p : Pos} {e : Expr} (h : noTup e = true) (env : Env) : swappedStores [.Tuple ts kk p] e env = pure none := by
  cases e with
  | Tuple a b c => cases h
  | _ => rfl
theorem tup_sole {ts : List Expr} {kk : Nat} {p : Pos} (e : Expr) (l : Nat) (env : Env) : swapsWithSole [.Tuple ts kk p] e l env = pure false := by
  cases e <;> rfl
theorem sub_sole {o i : Expr} {p : Pos} (e : Expr) (l : Nat) (env : Env) : swapsWithSole [.Subscript o i p] e l env = pure false := by
  cases e <;> rfl
theorem sub_sw {o i : Expr} {p : Pos} (e : Expr) (env : Env) : swappedStores [.Subscript o i p] e env = pure none := by
  cases e <;> rfl
/-- x += y, whole numbers or texts -/
theorem ip_plus : PIp X .Add (fun x y H Q => (∃ a b, x = V.int a ∧ y = V.int b ∧ Q (V.int (a + b)) H) ∨ (∃ a b, x = V.str a ∧ y = V.str b ∧ a.length + b.length ≤ sizeLine ∧ Q (V.str (a ++ b)) H)) := by
  intro pins s σ H x y v u Q I r1 r2 h
  rcases h with ⟨a, b, e1, e2, q⟩ | ⟨a, b, e1, e2, hl, q⟩
  · exact ip_add pins s σ H x y v u Q I r1 r2 ⟨a, b, e1, e2, q⟩
  · exact iop_add_str pins s σ H x y v u Q I r1 r2 ⟨a, b, e1, e2, hl, q⟩
theorem plain_sub {o i : Expr} {p : Pos} {env : Env} (h : plain i = true) (v : Value) : assign (.Subscript o i p) env v = (do
      let ov ← holding [v] (eval o env)
      let iv ← holding [v, ov] (eval i env)
      standAt p
      holding [v, ov, iv] (setItem ov iv v)
      release [v, ov, iv] []) := by
  cases i with
  | Slice a b c d => cases h
  | _ => rfl
/-- name = [..] -/
theorem sndSetC (g : GdX X Z n k G) {i : Nat} {own : List Nat} {tg : Tg} {src : Src} {c : Ot} {elt : E} {x : Str} {px sp : Pos} {y : Expr} (h1 : chkN Z i x = true) (h2 : stB Z.raw x = true) (h : chkE Z (.comp own tg src c elt) y = true) :
    PS X (.Assign [.Name x px] y sp) (tAsg (rdE (X.kw G) Z.pro (run (Phi Z.T n k) (.comp own tg src c elt))) (gName i)) := by
  have hi : X.N[i]? = some x := by rw [g.N]; exact of_decide_eq_true h1
  have nd : X.N.Nodup := by rw [g.N]; exact g.nd
  obtain ⟨s1, s2⟩ := g.st x h2
  have pe := sndE _ g y h
  unfold chkE at h
  split at h
  · rename_i el t it ifs scope pos
    by_cases hw : (X.env.blockKind == .function && X.env.kindOf x == some .local && px.line == pos.line && !(scope.names.any fun (n, k) => n == x && (k == .local || k == .cell))) = true
    · have hsw : swapsWith (.ListComp el [⟨t, it, ifs, 0⟩] scope pos) (some (.Name x px)) sp.line X.env = pure true := by
        show pure _ = _
        exact congrArg pure hw
      have hl : X.env.scope.names.lookup x = some .local := by
        have := (and2 (and2 (and2 hw).1).1).2
        exact eq_of_beq this
      have h1 := and2 h
      have h2 := and2 h1.1
      have h3 := and2 h2.1
      have h4 := and2 h3.1
      have h5 := and2 h4.1
      have h6 := and2 h5.1
      have h7 := and2 h6.1
      have ho : ∀ i ∈ tgSlots tg, i ∈ own := fun i hi => of_decide_eq_true (List.all_eq_true.mp h2.2 i hi)
      have hp : ∀ i ∈ Z.pro, i ∉ own := fun i hi => by
        have := List.all_eq_true.mp h1.2 i hi
        simpa using this
      refine PS.imp (t := tAsg (tLc (rdI (X.kw G) Z.pro (runI (Phi Z.T n k) src)) (gT (X.kw G) tg) (rdT (X.kw G) Z.pro (runOt (Phi Z.T n k) c)) (rdE (X.kw G) Z.pro (run (Phi Z.T n k) elt)) ((ownP Z.N own).map (·.2))) (gName i)) (ps_setLc (own := ownP Z.N own) g.calm nd hi hl hsw (sndI src g _ h6.2) (by rw [g.N, g.sc]; exact blkOk_by h7.1)
        (fun s H C cl fp => (g.blk h7.1 s H C cl fp).tg h7.2) (fun s H C cl fp => sndOt c (g.blk h7.1 s H C cl fp) _ h4.2) (fun s H C cl fp => sndE elt (g.blk h7.1 s H C cl fp) _ h3.2) (fun x => plain_fold h5.2 X.env x)) fun D σ H q => ?_
      rw [ownP_snd]
      exact imp_comp ho hp q
    · have hsw : swapsWith (.ListComp el [⟨t, it, ifs, 0⟩] scope pos) (some (.Name x px)) sp.line X.env = pure false := by
        show pure _ = _
        exact congrArg pure ((Bool.not_eq_true _).mp hw)
      exact ps_set nd hi s1 pe hsw s2
  · cases h
mutual
theorem sndS : ∀ (s : S) {X : Cx} {Z : Sx} {n k : Nat} {G : CK} (g : GdX X Z n k G) (x : Stmt), chkS Z s x = true → PS X x (rdS (X.kw G) Z.pro (runS (Phi Z.T n k) n s))
  | .expr e, X, Z, n, k, G, g, x, h => by
    unfold chkS at h
    split at h
    · have h1 := and2 h
      exact PS.imp (ps_expr (sndE e g _ h1.1) (noComp_sw h1.2 _ _ _)) fun D σ H q => imp_expr q
    · cases h
  | .set i e, X, Z, n, k, G, g, x, h => by
    unfold chkS at h
    split at h
    · rename_i x px y sp
      have h0 := and2 h
      have h1 := and2 h0.1
      have h2 := and2 h1.1
      have h3 := and2 h2.1
      have hp : i ∉ Z.pro := by simpa using h2.2
      have hi : X.N[i]? = some x := by rw [g.N]; exact of_decide_eq_true h3.1
      have nd : X.N.Nodup := by rw [g.N]; exact g.nd
      obtain ⟨s1, s2⟩ := g.st x h3.2
      by_cases hc : noComp y = true
      · exact PS.imp (ps_set nd hi s1 (sndE e g _ h1.2) (noComp_sw hc _ _ _) s2) fun D σ H q => imp_set hp q
      · have hc2 : isComp e = true := by
          have := h0.2
          rw [Bool.or_eq_true] at this
          exact this.resolve_left hc
        cases e with
        | comp own tg src c elt => exact PS.imp (sndSetC g h3.1 h3.2 h1.2) fun D σ H q => imp_set hp q
        | _ => cases hc2
    · cases h
  | .unp is e, X, Z, n, k, G, g, x, h => by
    unfold chkS at h
    split at h
    · have h1 := and2 h
      have h2 := and2 h1.1
      have h3 := and2 h2.1
      have hp : ∀ i ∈ Z.pro, i ∉ is := fun i hi => by
        have := List.all_eq_true.mp h1.2 i hi
        simpa using this
      exact PS.imp (ps_asg (sndE e g _ h3.2) (g.tg (tg := .tup is) h3.1) (tup_sole _ _ _) (noTup_sw h2.2 _) rfl) fun D σ H q => imp_unp hp q
    · cases h
  | .setAt i ix e, X, Z, n, k, G, g, x, h => by
    unfold chkS at h
    split at h
    · have h1 := and2 h
      have h2 := and2 h1.1
      have h3 := and2 h2.1
      exact PS.imp (ps_asg (sndE e g _ h1.2) (pg_sub (g.pvar h3.1) (sndE ix g _ h3.2) (set_dl g.room.units) (plain_sub h2.2)) (sub_sole _ _ _) (sub_sw _ _) rfl) fun D σ H q => imp_setAt q
    · cases h
  | .aug i op e, X, Z, n, k, G, g, x, h => by
    unfold chkS at h
    split at h
    · rename_i x px y sp
      have h1 := and2 h
      have h2 := and2 h1.1
      have h3 := and2 h2.1
      have h4 := and2 h3.1
      have hp : i ∉ Z.pro := by simpa using h2.2
      have hk := of_decide_eq_true h4.1
      subst hk
      obtain ⟨s1, s2⟩ := g.st x h3.2
      refine PS.imp (ps_aug (by rw [g.N]; exact g.nd) (by rw [g.N]; exact of_decide_eq_true h4.2) s1 (sndE e g _ h1.2) ip_plus s2) fun D σ H q => imp_aug hp (fun x y H Q z => ?_) q
      rcases z with ⟨a, b, e1, e2, ⟨_, z⟩ | ⟨z, _⟩⟩ | ⟨a, b, e1, e2, _, hl, z⟩
      · exact .inl ⟨a, b, e1, e2, z⟩
      · cases z
      · exact .inr ⟨a, b, e1, e2, hl, z⟩
    · rename_i x px y sp
      have h1 := and2 h
      have h2 := and2 h1.1
      have h3 := and2 h2.1
      have h4 := and2 h3.1
      have hp : i ∉ Z.pro := by simpa using h2.2
      have hk := of_decide_eq_true h4.1
      subst hk
      obtain ⟨s1, s2⟩ := g.st x h3.2
      refine PS.imp (ps_aug (by rw [g.N]; exact g.nd) (by rw [g.N]; exact of_decide_eq_true h4.2) s1 (sndE e g _ h1.2) ip_sub s2) fun D σ H q => imp_aug hp (fun x y H Q z => ?_) q
      rcases z with ⟨a, b, e1, e2, ⟨z, _⟩ | ⟨_, z⟩⟩ | ⟨a, b, e1, e2, z, _⟩
      · cases z
      · exact ⟨a, b, e1, e2, z⟩
      · cases z
    · cases h
  | .ife t a b, X, Z, n, k, G, g, x, h => by
    unfold chkS at h
    split at h
    · have h1 := and2 h
      have h2 := and2 h1.1
      exact PS.imp (ps_if (sndT t g _ h2.1) (sndB a g _ h2.2) (sndB b g _ h1.2)) fun D σ H q => imp_ife q
    · cases h
  | .for_ tg src body wp, X, Z, n, k, G, g, x, h => by
    unfold chkS at h
    split at h
    · have h1 := and2 h
      have h2 := and2 h1.1
      have h3 := and2 h2.1
      have h4 := and2 h3.1
      have hp : ∀ i ∈ Z.pro, i ∉ tgSlots tg := fun i hi => by
        have := List.all_eq_true.mp h1.2 i hi
        simpa using this
      exact PS.imp (ps_for g.pa g.calm (sndI src g _ h4.2) (g.tg h4.1) (sndB body g _ h2.2) (fun x => plain_fold h3.2 X.env x)) fun D σ H q => imp_for hp q
    · cases h
  | .whl t body wp, X, Z, n, k, G, g, x, h => by
    unfold chkS at h
    split at h
    · have h1 := and2 h
      exact PS.imp (ps_while g.pa (sndT t g _ h1.1) (sndB body g _ h1.2)) fun D σ H q => imp_whl q
    · cases h
  | .ret e, X, Z, n, k, G, g, x, h => by
    unfold chkS at h
    split at h
    · exact PS.imp (ps_ret (sndE e g _ h)) fun D σ H q => imp_ret q
    · cases h
  | .retN, X, Z, n, k, G, g, x, h => by
    unfold chkS at h
    split at h
    · exact PS.imp ps_retN fun D σ H q => imp_retN q
    · cases h
  | .pass, X, Z, n, k, G, g, x, h => by
    unfold chkS at h
    split at h
    · exact PS.imp ps_pass fun D σ H q => imp_next (fun r => by unfold runS; rfl) q
    · cases h
  | .brk, X, Z, n, k, G, g, x, h => by
    unfold chkS at h
    split at h
    · exact PS.imp ps_break fun D σ H q => imp_brk q
    · cases h
  | .cont, X, Z, n, k, G, g, x, h => by
    unfold chkS at h
    split at h
    · exact PS.imp ps_continue fun D σ H q => imp_cont q
    · cases h
theorem sndB : ∀ (ss : Ss) {X : Cx} {Z : Sx} {n k : Nat} {G : CK} (g : GdX X Z n k G) (xs : List Stmt), chkB Z ss xs = true → PSs X xs (rdS (X.kw G) Z.pro (runB (Phi Z.T n k) n ss))
  | .nil, X, Z, n, k, G, g, xs, h => by
    unfold chkB at h
    split at h
    · exact PSs.imp pss_nil fun D σ H q => imp_bnil q
    · cases h
  | .cons s ss, X, Z, n, k, G, g, xs, h => by
    unfold chkB at h
    split at h
    · have h1 := and2 h
      exact PSs.imp (pss_cons (sndS s g _ h1.1) (sndB ss g _ h1.2)) fun D σ H q => imp_bcons q
    · cases h
end
end

/-! ### defs -/
def proOf (io : Option Nat) (vs : List V) : List (Nat × V) := match io with
  | none => []
  | some i => match vs[i]? with
    | some v => [(i, v)]
    | none => []
def proN (io : Option Nat) : List Nat := match io with
  | none => []
  | some i => [i]
theorem pro_in {io : Option Nat} {vs : List V} {p : Nat × V} (h : p ∈ proOf io vs) : io = some p.1 ∧ vs[p.1]? = some p.2 := by
  unfold proOf at h
  cases io with
  | none => cases h
  | some i =>
    dsimp only at h
    cases hv : vs[i]? with
    | none => rw [hv] at h; cases h
    | some v =>
      rw [hv] at h
      have e := List.mem_singleton.mp h
      subst e
      exact ⟨rfl, hv⟩
theorem start_get {N : List Str} {vs : List V} {i : Nat} {v : V} (h : vs[i]? = some v) : (L2.start N vs)[i]? = some (some v) := by
  unfold L2.start
  have hi := (List.getElem?_eq_some_iff.mp h).1
  rw [List.getElem?_append_left (by rw [List.length_map]; exact hi), List.getElem?_map, h]
  rfl
theorem startR_get {D : Df} {ds : List Dat} {i : Nat} {s : Sl} (h : (startR D ds)[i]? = some (some s)) : ∃ d, ds[i]? = some d ∧ s = ⟨d, if D.io = some i then .io else .fz⟩ := by
  unfold startR at h
  by_cases hi : i < ds.length
  · rw [List.getElem?_append_left (by rw [List.length_mapIdx]; exact hi), List.getElem?_mapIdx, List.getElem?_eq_getElem hi] at h
    exact ⟨ds[i], List.getElem?_eq_getElem hi, (Option.some.inj (Option.some.inj h)).symm⟩
  · rw [List.getElem?_append_right (by rw [List.length_mapIdx]; omega), List.getElem?_replicate] at h
    split at h
    · cases h
    · cases h
theorem fit_start {K : Kw} {D : Df} {F H : Hp} {ds : List Dat} {vs : List V} (a : ArgsOk K D.io D.ps F H ds vs) : Fit ⟨K, noT K H, F, IoA D.io vs, proOf D.io vs⟩ (startR D ds) F (L2.start D.N vs) H := by
  have lent : ∀ b, IoA D.io vs b → ∃ d, F b = none ∧ Own K F H b d := fun b z => by
    obtain ⟨i, hi, hv⟩ := z
    have hl := (List.getElem?_eq_some_iff.mp hv).1
    have hd : i < ds.length := by rw [a.ld, ← a.lv]; exact hl
    obtain ⟨x, e, h1, h2⟩ := a.lent i ds[i] _ (List.getElem?_eq_getElem hd) hv hi
    cases e
    exact ⟨ds[i], h1, h2⟩
  refine ⟨a.sub, fun b o e _ => (noT_some e).2, fun b o e => .inl e, Same.refl F, fun b z => ?_, fun i s e => ?_, fun i j s t b n e1 m1 e2 m2 => ?_, fun p hp => start_get (pro_in hp).2, ?_, a.tab, fun P hP => ⟨noT_tb hP, fun z => ?_⟩⟩
  · obtain ⟨d, _, h2⟩ := lent b z
    exact Own.there h2
  · obtain ⟨d, hd, rfl⟩ := startR_get e
    have hl := (List.getElem?_eq_some_iff.mp hd).1
    have hv : i < vs.length := by rw [a.lv, ← a.ld]; exact hl
    refine ⟨vs[i], start_get (List.getElem?_eq_getElem hv), ?_⟩
    unfold SlotOk
    by_cases hio : D.io = some i
    · simp only [if_pos hio]
      obtain ⟨b, eb, h1, h2⟩ := a.lent i d _ hd (List.getElem?_eq_getElem hv) hio
      exact ⟨b, eb, h1, ⟨i, hio, by rw [List.getElem?_eq_getElem hv, eb]⟩, h2⟩
    · simp only [if_neg hio]
      exact a.fz i d _ hd (List.getElem?_eq_getElem hv) hio
  · obtain ⟨d, hd, rfl⟩ := startR_get e1
    obtain ⟨d', hd', rfl⟩ := startR_get e2
    by_cases h1 : D.io = some i
    · by_cases h2 : D.io = some j
      · rw [h1] at h2
        cases h2
        exact absurd rfl n
      · simp only [if_neg h2] at m2
        exact absurd rfl m2
    · simp only [if_neg h1] at m1
      exact absurd rfl m1
  · unfold startR L2.start
    rw [List.length_append, List.length_append, List.length_mapIdx, List.length_map, List.length_replicate, List.length_replicate, a.ld, a.lv]
  · obtain ⟨d, _, h2⟩ := lent P z
    obtain ⟨u, hu, nt⟩ := Own.nt h2
    exact a.tab.ne hP hu nt rfl

def zOf (T : List (Str × Df)) (D : Df) (sc : Scope) : Sx := ⟨D.N, sc, sc, proN D.io, T, D.kd != 0⟩
/-- a body: what its reading asks, from what the def is asked -/
theorem body_rd {K : Kw} {W : Wd} {n : Nat} {D : Df} {H F0 : Hp} {vs : List V} {ds : List Dat} {o : Out} {d : Dat} {Q : VK}
    (hp : runD W n D ds = some (o, d)) (a : ArgsOk K D.io D.ps F0 H ds vs) (q : ∀ v F' H', PostOk K D.io F0 H vs o d v F' H' → Q v H') : rdS K (proN D.io) (bodyM W n D) { nx := fun _ H' => Q .non H', rt := Q } (L2.start D.N vs) H := by
  have fit := fit_start a
  have ok : Ok K (proN D.io) ⟨K, noT K H, F0, IoA D.io vs, proOf D.io vs⟩ := ⟨rfl, fun p hpp => by
    have := (pro_in hpp).1
    unfold proN
    rw [this]
    exact List.mem_singleton.mpr rfl⟩
  unfold runD at hp
  split at hp
  · -- what is left behind
    have left : ∀ {r : Rho} {σ' : L2.St} {F' H' : Hp}, leftR D r = some d → Same F0 F' → Fit ⟨K, noT K H, F0, IoA D.io vs, proOf D.io vs⟩ r F' σ' H' → ∀ b, IoA D.io vs b → F' b = none ∧ Own K F' H' b d := by
      intro r σ' F' H' hl sf f' b hb
      obtain ⟨i, hi, hv⟩ := hb
      unfold leftR at hl
      rw [hi] at hl
      dsimp only at hl
      split at hl
      · rename_i x hx
        cases hl
        obtain ⟨v, e1, e2⟩ := f'.slot i _ (look_some hx)
        have hpr := f'.pro (i, .ref b) (by
          show (i, V.ref b) ∈ proOf D.io vs
          unfold proOf
          rw [hi]
          dsimp only
          rw [hv]
          exact List.mem_singleton.mpr rfl)
        rw [hpr] at e1
        cases e1
        obtain ⟨c, ec, h1, h2, h3⟩ := e2
        cases ec
        exact ⟨h1, h3⟩
      · cases hl
    have post : ∀ {r : Rho} {σ' : L2.St} {F' H' : Hp} {v : V}, leftR D r = some d → Same F0 F' → Fit ⟨K, noT K H, F0, IoA D.io vs, proOf D.io vs⟩ r F' σ' H' → ResOk K H F' H' o v → Q v H' := by
      intro r σ' F' H' v hl sf f' hr
      refine q v F' H' ⟨sf, f'.sub, fun b u e nt ni => f'.keep b u ((noT_eq nt).trans e) ni, fun b u e => ?_, left hl sf f', hr, f'.tab⟩
      rcases f'.newf b u e with z | z
      · exact .inl z
      · have z : noT K H b = none := z
        cases ht : K.G.tb b with
        | false => rw [noT_eq ht] at z; exact .inr z
        | true => rw [(f'.tab b ht).1] at e; cases e
    have fre : ∀ {r : Rho} {σ' : L2.St} {F' H' : Hp} {b : Addr} {x : Dat}, Fit ⟨K, noT K H, F0, IoA D.io vs, proOf D.io vs⟩ r F' σ' H' → noT K H b = none → Own K F' H' b x → H b = none := fun {r σ' F' H' b x} f' z w => by
      obtain ⟨u, hu, nt⟩ := Own.nt w
      rw [noT_eq (f'.tab.off hu nt)] at z
      exact z
    cases hb : bodyM W n D (startR D ds) with
    | none => rw [hb] at hp; cases hp
    | some fl =>
      rw [hb] at hp
      refine ⟨_, startR D ds, F0, fl, ok, fit, hb, ?_⟩
      cases fl with
      | next r =>
        obtain ⟨x, hl, hp⟩ := bindS hp
        cases hp
        exact fun σ' F' H' sf f' => post hl sf f' rfl
      | brk r => cases hp
      | cont r => cases hp
      | ret oo r =>
        cases oo with
        | val x =>
          obtain ⟨y, hl, hp⟩ := bindS hp
          cases hp
          exact fun v σ' F' H' sf f' k' => post hl sf f' k'
        | fresh x =>
          obtain ⟨y, hl, hp⟩ := bindS hp
          cases hp
          intro v σ' F' H' sf f' k'
          obtain ⟨b, e1, e2, e3, e4, e5, e6⟩ := k'
          exact post hl sf f' ⟨b, e1, e2, fre f' e3 e5, e5⟩
        | place j =>
          dsimp only at hp
          split at hp
          · rename_i x hx
            obtain ⟨y, hl, hp⟩ := bindS hp
            cases hp
            intro v σ' F' H' sf f' k'
            obtain ⟨u, e1, e2⟩ := f'.slot j _ (look_some hx)
            rw [show σ'[j]? = some (some v) from k'] at e1
            cases e1
            exact post hl sf f' e2
          · rename_i x hx
            obtain ⟨y, hl, hp⟩ := bindS hp
            cases hp
            intro v σ' F' H' sf f' k'
            obtain ⟨u, e1, e2⟩ := f'.slot j _ (look_some hx)
            rw [show σ'[j]? = some (some v) from k'] at e1
            cases e1
            obtain ⟨b, e3, e4, e5, e6, e7⟩ := e2
            exact post hl sf f' ⟨b, e3, e4, fre f' e5 e7, e7⟩
          · cases hp
  · cases hp
theorem body_ok {X : Cx} {G : CK} {W : Wd} {n : Nat} {D : Df} {xs : List Stmt} (hs : PSs X xs (rdS (X.kw G) (proN D.io) (bodyM W n D))) {H F0 : Hp} {vs : List V} {ds : List Dat} {o : Out} {d : Dat} {Q : VK}
    (hp : runD W n D ds = some (o, d)) (a : ArgsOk (X.kw G) D.io D.ps F0 H ds vs) (q : ∀ v F' H', PostOk (X.kw G) D.io F0 H vs o d v F' H' → Q v H') : ∃ t, PSs X xs t ∧ t { nx := fun _ H' => Q .non H', rt := Q } (L2.start D.N vs) H := ⟨_, hs, body_rd hp a q⟩
end Dl

/-! D10: defs that make functions and hand them on; all defs of a text. -/
namespace Dl
open PySem PySem.Spec PyProof.Rows L2 LamX NdefX

/-! ### parameters -/
theorem bind1 (fd : FuncData) (a : Str) (p : Pos) (u : Value) (h1 : fd.params = ⟨[], [⟨a, none, p⟩], none, [], [], none, []⟩) (h2 : fd.defaults = .none) (h3 : fd.kwdefaults = .none) : bindArgs fd ⟨[u], []⟩ = pure [(a, u)] := by
  unfold bindArgs
  rw [h1, h2, h3]
  have e : seqItems? Value.none = pure none := rfl
  simp [e]
theorem bind2 (fd : FuncData) (a b : Str) (p q : Pos) (u v : Value) (ne : a ≠ b) (h1 : fd.params = ⟨[], [⟨a, none, p⟩, ⟨b, none, q⟩], none, [], [], none, []⟩) (h2 : fd.defaults = .none) (h3 : fd.kwdefaults = .none) : bindArgs fd ⟨[u, v], []⟩ = pure [(a, u), (b, v)] := by
  unfold bindArgs
  rw [h1, h2, h3]
  have e : seqItems? Value.none = pure none := rfl
  have n1 : (b == a) = false := beq_eq_false_iff_ne.mpr (Ne.symm ne)
  simp [e, List.lookup, n1]
def parB (params : Arguments) (ps : List Str) : Bool := match params with
  | ⟨[], [⟨a, none, _⟩], none, [], [], none, []⟩ => decide (ps = [a])
  | ⟨[], [⟨a, none, _⟩, ⟨b, none, _⟩], none, [], [], none, []⟩ => decide (ps = [a, b]) && !decide (a = b)
  | _ => false
theorem par_facts {params : Arguments} {ps : List Str} (h : parB params ps = true) : (∀ (fd : FuncData) (us : List Value), fd.params = params → fd.defaults = .none → fd.kwdefaults = .none → us.length = ps.length → bindArgs fd ⟨us, []⟩ = pure (ps.zip us)) ∧
    params.defaults = [] ∧ params.kw_defaults = [] ∧ (∀ env, annTrees params none env = []) ∧ ∀ env, defaultsOf params env = ([], []) := by
  unfold parB at h
  split at h
  · rename_i a p
    have e := of_decide_eq_true h
    subst e
    refine ⟨fun fd us h1 h2 h3 hl => ?_, rfl, rfl, fun _ => rfl, fun _ => rfl⟩
    match us, hl with
    | [u], _ => exact bind1 fd a p u h1 h2 h3
  · rename_i a p b q
    rw [Bool.and_eq_true] at h
    have e := of_decide_eq_true h.1
    subst e
    have ne : a ≠ b := by simpa using h.2
    refine ⟨fun fd us h1 h2 h3 hl => ?_, rfl, rfl, fun _ => rfl, fun _ => rfl⟩
    match us, hl with
    | [u, v], _ => exact bind2 fd a b p q u v ne h1 h2 h3
  · cases h

/-! ### a function's code -/
/-- the captured names -/
def frD (D : Df) : List Str := (D.N.drop D.np).take (D.ps - D.np)
/-- the made function C is that of the term D -/
structure IsC (T : List (Str × Df)) (D : Df) (C : CF) : Prop where
  kd : D.kd = 2
  fin : D.fin = none
  io : D.io = none
  sc : NScope D.N (D.N.take D.np) (frD D) C.scope
  ps : D.ps = D.np + (frD D).length
  np : (D.N.take D.np).length = D.np
  code : (∃ name params body, C = CF.ofDef ⟨name, C.qual, params, body, C.scope, C.cl, C.c⟩ ∧ parB params (D.N.take D.np) = true ∧ chkB (zOf T D C.scope) D.body body = true) ∨
    (∃ params body e, D.body = .cons (.ret e) .nil ∧ C = CF.ofLam C.qual params body C.scope C.cl C.c ∧ parB params (D.N.take D.np) = true ∧ chkE (zOf T D C.scope) e body = true)
def codeB (T : List (Str × Df)) (c : Nat) (params : Arguments) (scope : Scope) (bd : FuncBody) : Bool := match T.lookup (cloKey c) with
  | some D => decide (D.kd = 2) && D.fin.isNone && D.io.isNone && nscB D.N (D.N.take D.np) (frD D) scope && decide (D.ps = D.np + (frD D).length) && decide ((D.N.take D.np).length = D.np) && parB params (D.N.take D.np) &&
    (match bd with
    | .stmts b => chkB (zOf T D scope) D.body b
    | .expr x => match D.body with
      | .cons (.ret t) .nil => chkE (zOf T D scope) t x
      | _ => false)
  | none => false
theorem code_facts {T : List (Str × Df)} {c : Nat} {params : Arguments} {scope : Scope} {bd : FuncBody} (h : codeB T c params scope bd = true) : ∃ D, T.lookup (cloKey c) = some D ∧ parB params (D.N.take D.np) = true ∧ nscB D.N (D.N.take D.np) (frD D) scope = true ∧
    (∀ b, bd = .stmts b → ∀ name qual cl c', IsC T D (CF.ofDef ⟨name, qual, params, b, scope, cl, c'⟩)) ∧ (∀ x, bd = .expr x → ∀ qual cl c', IsC T D (CF.ofLam qual params x scope cl c')) := by
  unfold codeB at h
  split at h
  · rename_i D hD
    have h1 := and2 h
    have h2 := and2 h1.1
    have h3 := and2 h2.1
    have h4 := and2 h3.1
    have h5 := and2 h4.1
    have h6 := and2 h5.1
    have h7 := and2 h6.1
    refine ⟨D, hD, h2.2, h5.2, fun b eb name qual cl c' => ?_, fun x ex qual cl c' => ?_⟩
    · subst eb
      exact ⟨of_decide_eq_true h7.1, Option.isNone_iff_eq_none.mp h7.2, Option.isNone_iff_eq_none.mp h6.2, nscope_by h5.2, of_decide_eq_true h4.2, of_decide_eq_true h3.2, .inl ⟨name, params, b, rfl, h2.2, h1.2⟩⟩
    · subst ex
      have hb := h1.2
      dsimp only at hb
      split at hb
      · rename_i t hbody
        exact ⟨of_decide_eq_true h7.1, Option.isNone_iff_eq_none.mp h7.2, Option.isNone_iff_eq_none.mp h6.2, nscope_by h5.2, of_decide_eq_true h4.2, of_decide_eq_true h3.2, .inr ⟨params, x, t, hbody, rfl, h2.2, hb⟩⟩
      · cases hb
  · cases h

/-! ### what is known of functions -/
/-- .. that capture nothing -/
def ck0 (T : List (Str × Df)) (F : Hp) (v : V) (c : Nat) (env : List Dat) : Prop := env = [] ∧ ∃ f C D, v = .ref f ∧ F f = some (CloO f C) ∧ F C.c = some (CodeO C.c C.qual) ∧ T.lookup (cloKey c) = some D ∧ IsC T D C ∧ C.cl = [] ∧ frD D = []
def CK0 (T : List (Str × Df)) (nm : Nat → Nat → Str) (tbs : List Addr) : CK where
  ck := ck0 T
  mono := fun s ⟨e, f, C, D, h1, h2, h3, h4⟩ => ⟨e, f, C, D, h1, s _ _ h2, s _ _ h3, h4⟩
  isref := fun ⟨_, f, _, _, e, _⟩ => ⟨f, e⟩
  nm := nm
  tbs := tbs
/-- .. that were handed over at the state s -/
def ck1 (T : List (Str × Df)) (K0 : Kw) (outer : List Env) (h : Heap) (H : Hp) (F : Hp) (v : V) (c : Nat) (env : List Dat) : Prop := ck0 T F v c env ∨ (env ≠ [] ∧ ∃ f C D ws, v = .ref f ∧ F f = some (CloO f C) ∧ F C.c = some (CodeO C.c C.qual) ∧ T.lookup (cloKey c) = some D ∧ IsC T D C ∧
  CellsAt C.cl (frD D) (ws.map some) h H ∧ (∀ y c, C.cl.lookup y = some c → c ∉ frs outer) ∧ DenL K0 F env ws)
def CK1 (T : List (Str × Df)) (K0 : Kw) (outer : List Env) (h : Heap) (H : Hp) : CK where
  ck := ck1 T K0 outer h H
  mono := fun {F F' v c env} s z => by
    rcases z with z | ⟨ne, f, C, D, ws, h1, h2, h3, h4, h5, h6, h7, h8⟩
    · exact .inl ((CK0 T K0.G.nm K0.G.tbs).mono s z)
    · exact .inr ⟨ne, f, C, D, ws, h1, s _ _ h2, s _ _ h3, h4, h5, h6, h7, DenL.mono s _ h8⟩
  isref := fun z => by
    rcases z with ⟨_, f, _, _, e, _⟩ | ⟨_, f, _, _, _, e, _⟩
    · exact ⟨f, e⟩
    · exact ⟨f, e⟩
  nm := K0.G.nm
  tbs := K0.G.tbs
theorem cells_nil {h : Heap} {H : Hp} : CellsAt [] [] [] h H := ⟨rfl, (fun y c e => nomatch e), (fun x y c e => nomatch e), fun i y e => nomatch e⟩
theorem clo_none {cells : List (Str × Addr)} {names : List (Str × NameKind)} (h : ∀ y ∈ names, y.2 ≠ .free) : cloFrom cells names [] = [] := by
  cases e : cloFrom cells names [] with
  | nil => rfl
  | cons p r =>
    rcases cloFrom_mem (cells := cells) (names := names) (acc := []) (n := p.1) (c := p.2) (by rw [e]; exact List.mem_cons_self) with hm | ⟨h1, h2⟩
    · cases hm
    · exact absurd rfl (h _ h1)

/-! ### the end of a def that makes a function -/
/-- the last argument, behind plain ones -/
def lastA (Z : Sx) : Es → List Expr → Option Expr
  | .nil, [x] => some x
  | .cons e es, x :: xs => if chkE Z e x && plain x then lastA Z es xs else none
  | _, _ => none
structure MkX (X : Cx) (G : CK) (q : Str) (c P : Addr) : Prop where
  TB : TabB X.base X.mg c P
  code : X.env.code = .ref c
  tb : G.tb P = true
  q : X.env.qual = q
  fn : ∀ x, X.fn x = true
section
variable {X : Cx} {Z : Sx} {n k : Nat} {G : CK}
/-- es.., then a lambda -/
def rdAL (K : Kw) (pro : List Nat) (q : Str) (mk : Addr → CF) (m : Rho → Option (List Out × Rho)) : TA := fun σ H Q => ∃ A r F os r', Ok K pro A ∧ Fit A r F σ H ∧ m r = some (os, r') ∧
  ∀ vs F' H' f c', Same F F' → Fit A r' F' σ H' → OutsOk A r' F' σ H' os vs → F' f = some (CloO f (mk c')) → F' c' = some (CodeO c' q) → Q (vs ++ [.ref f]) H'
theorem sndAL {q : Str} {c P : Addr} (g : GdX X Z n k G) (M : MkX X G q c P) {params : Arguments} {body : Expr} {scope : Scope} {pos : Pos} (hdef : defaultsOf params X.env = ([], []))
    (hfree : ∀ y ∈ scope.names, y.2 = .free → X.env.scope.names.lookup y.1 = some .cell ∨ X.env.scope.names.lookup y.1 = some .free) (hn : G.nm pos.line pos.col = q ++ "<lambda>") :
    ∀ (es : Es) (xs : List Expr), lastA Z es xs = some (.Lambda params body scope pos) → PA X xs (rdAL (X.kw G) Z.pro (q ++ "<lambda>") (fun c' => CF.ofLam (q ++ "<lambda>") params body scope (cloFrom X.env.cells scope.names []) c') (runA (Phi Z.T n k) es none))
  | .nil, xs, h => by
    match xs, h with
    | [x], h =>
      have h : some x = some (.Lambda params body scope pos) := h
      cases h
      refine PA.imp (pa_cons (pe_lamK M.TB M.code hdef hfree) pa_nil rfl) fun σ H Q z => ?_
      obtain ⟨A, r, F, os, r', ok, fit, hm, w⟩ := z
      unfold runA at hm
      cases hm
      have hP : A.K.G.tb P = true := by rw [ok.k]; exact M.tb
      obtain ⟨fP, ps, h2, h3, h4⟩ := fit.tab P hP
      refine ⟨ps, h2, h3, fun cv hc => ?_, fun f c' H1 m => ?_⟩
      · obtain ⟨c0, e, _⟩ := h4 pos cv hc
        exact ⟨c0, e⟩
      · rw [M.q] at m
        obtain ⟨F', nw, e1, e2⟩ := m.fit (K := A.K) fit.sub fit.tab hP h2 (by rw [ok.k]; exact hn)
        exact w [] F' H1 f c' nw.ff (fit.grow nw) rfl e1 e2
    | [], h => cases h
    | _ :: _ :: _, h => cases h
  | .cons e es, xs, h => by
    match xs, h with
    | [], h => cases h
    | x :: xs, h =>
      have h : (if chkE Z e x && plain x then lastA Z es xs else none) = some (.Lambda params body scope pos) := h
      split at h
      · rename_i hc
        have hc := and2 hc
        refine PA.imp (pa_cons (sndE e g _ hc.1) (sndAL g M hdef hfree hn es xs h) (plain_star hc.2 _ X.env)) fun σ H Q z => ?_
        obtain ⟨A, r, F, os, r', ok, fit, hm, w⟩ := z
        unfold runA at hm
        obtain ⟨⟨oa, r1⟩, ha, hm⟩ := bindS hm
        obtain ⟨⟨d, r2⟩, hd, hm⟩ := bindS hm
        obtain ⟨⟨os', r3⟩, he, hm⟩ := bindS hm
        cases hm
        refine ⟨A, r, F, oa, r1, ok, fit, ha, fun v1 F1 H1 s1 f1 k1 => ?_⟩
        obtain ⟨F1', s1', f1', h1⟩ := f1.frz k1 hd
        refine ⟨A, r2, F1', os', _, ok, f1', he, fun vs F2 H2 f c' s2 f2 k2 e1 e2 => ?_⟩
        exact w (v1 :: vs) F2 H2 f c' ((s1.trans s1').trans s2) f2 ⟨v1, vs, rfl, Den.mono s2 _ h1, k2⟩ e1 e2
      · cases h
/-- es.., then a name that holds the function -/
def rdAN (K : Kw) (pro : List Nat) (i : Nat) (m : Rho → Option (List Out × Rho)) : TA := fun σ H Q => ∃ A r F os r' v, Ok K pro A ∧ Fit A r F σ H ∧ m r = some (os, r') ∧ σ[i]? = some (some v) ∧
  ∀ vs F' H', Same F F' → Fit A r' F' σ H' → OutsOk A r' F' σ H' os vs → Q (vs ++ [v]) H'
theorem sndAN {i : Nat} {x : Str} {p : Pos} (g : GdX X Z n k G) (hv : varB Z i x = true) :
    ∀ (es : Es) (xs : List Expr), lastA Z es xs = some (.Name x p) → PA X xs (rdAN (X.kw G) Z.pro i (runA (Phi Z.T n k) es none))
  | .nil, xs, h => by
    match xs, h with
    | [y], h =>
      have h : some y = some (.Name x p) := h
      cases h
      refine PA.imp (pa_cons (g.pvar hv) pa_nil rfl) fun σ H Q z => ?_
      obtain ⟨A, r, F, os, r', v, ok, fit, hm, hs, w⟩ := z
      unfold runA at hm
      cases hm
      exact ⟨v, hs, w [] F H (Same.refl F) fit rfl⟩
    | [], h => cases h
    | _ :: _ :: _, h => cases h
  | .cons e es, xs, h => by
    match xs, h with
    | [], h => cases h
    | y :: xs, h =>
      have h : (if chkE Z e y && plain y then lastA Z es xs else none) = some (.Name x p) := h
      split at h
      · rename_i hc
        have hc := and2 hc
        refine PA.imp (pa_cons (sndE e g _ hc.1) (sndAN g hv es xs h) (plain_star hc.2 _ X.env)) fun σ H Q z => ?_
        obtain ⟨A, r, F, os, r', v, ok, fit, hm, hs, w⟩ := z
        unfold runA at hm
        obtain ⟨⟨oa, r1⟩, ha, hm⟩ := bindS hm
        obtain ⟨⟨d, r2⟩, hd, hm⟩ := bindS hm
        obtain ⟨⟨os', r3⟩, he, hm⟩ := bindS hm
        cases hm
        refine ⟨A, r, F, oa, r1, ok, fit, ha, fun v1 F1 H1 s1 f1 k1 => ?_⟩
        obtain ⟨F1', s1', f1', h1⟩ := f1.frz k1 hd
        refine ⟨A, r2, F1', os', _, v, ok, f1', he, hs, fun vs F2 H2 s2 f2 k2 => ?_⟩
        exact w (v1 :: vs) F2 H2 ((s1.trans s1').trans s2) f2 ⟨v1, vs, rfl, Den.mono s2 _ h1, k2⟩
      · cases h
end
/-! ### the call -/
theorem last_any {Z : Sx} {x : Expr} (hx : plain x = true) : ∀ (es : Es) (xs : List Expr), lastA Z es xs = some x → ∀ (env : Env) (cp : Pos), (backTo cp (starEach xs env)).any (·.1) = false
  | .nil, xs, h, env, cp => by
    match xs, h with
    | [y], h =>
      have h : some y = some x := h
      cases h
      rw [plain_star hx]
      rfl
    | [], h => cases h
    | _ :: _ :: _, h => cases h
  | .cons e es, xs, h, env, cp => by
    match xs, h with
    | [], h => cases h
    | y :: xs, h =>
      have h : (if chkE Z e y && plain y then lastA Z es xs else none) = some x := h
      split at h
      · rename_i hc
        have ih := last_any hx es xs h env cp
        rw [plain_star (and2 hc).2]
        exact ih
      · cases h
theorem last_head {Z : Sx} {x : Expr} (hx : plain x = true) : ∀ (es : Es) (a : Expr) (as : List Expr), lastA Z es (a :: as) = some x → plain a = true ∧ ∀ (env : Env) (cp : Pos), (backTo cp (starEach as env)).any (·.1) = false
  | .nil, a, as, h => by
    match as, h with
    | [], h =>
      have h : some a = some x := h
      cases h
      exact ⟨hx, fun _ _ => rfl⟩
    | _ :: _, h => cases h
  | .cons e es, a, as, h => by
    have h : (if chkE Z e a && plain a then lastA Z es as else none) = some x := h
    split at h
    · rename_i hc
      exact ⟨(and2 hc).2, fun env cp => last_any hx es as h env cp⟩
    · cases h
theorem env_ws {A : Fr} {r : Rho} {F H : Hp} {σ : L2.St} (fit : Fit A r F σ H) : ∀ {js : List Nat} {env : List Dat}, envOf r js = some env → ∃ ws : List V, js.map (slotAt σ) = ws.map some ∧ DenL A.K F env ws
  | [], env, h => by cases h; exact ⟨[], rfl, rfl⟩
  | j :: js, env, h => by
    unfold envOf at h
    split at h
    · rename_i d hd
      cases he : envOf r js with
      | none => rw [he] at h; cases h
      | some env' =>
        rw [he] at h
        cases h
        obtain ⟨ws, e1, e2⟩ := env_ws fit he
        obtain ⟨v, f1, f2⟩ := fit.slot j _ (look_some hd)
        exact ⟨v :: ws, by rw [List.map_cons, List.map_cons, e1, slotAt_of f1], v, ws, rfl, f2, e2⟩
    · cases h
theorem env_den {K K' : Kw} {F : Hp} (hK : K.K = K'.K) (hw : K.w = K'.w) (hc : ∀ v c, K.G.ck F v c [] → K'.G.ck F v c []) : ∀ {env : List Dat} {ws : List V}, env.all envD = true → DenL K F env ws → DenL K' F env ws
  | [], _, _, h => h
  | d :: env, _, he, ⟨v, vs, e, h, r⟩ => by
    rw [List.all_cons, Bool.and_eq_true] at he
    refine ⟨v, vs, e, ?_, env_den hK hw hc he.2 r⟩
    cases d with
    | fn c env' =>
      cases env' with
      | nil => exact hc v c h
      | cons a b => exact absurd (show false = true from he.1) Bool.false_ne_true
    | _ => exact Den.kw hK hw _ he.1 h
def spS (T : List (Str × Df)) (K0 : Kw) (np : Nat) (phi : List Dat → Option (Out × Dat)) : List Env → Shared → Sp := fun outer s vs H Q E => spD ⟨K0.K, K0.w, CK1 T K0 outer s.heap H⟩ none np phi vs H Q E
section
variable {X : Cx} {Z : Sx} {n k : Nat} {G : CK}
theorem fin_core {q : Str} {c P : Addr} (M : MkX X G q c P) {kd : Nat} (hG : kd = 0 ∨ ∀ F v c, G.ck F v c [] → ck0 Z.T F v c []) {F : Fin} {D : Df} {C : CF} {scope : Scope} (hD : Z.T.lookup (cloKey F.c) = some D) (hC : IsC Z.T D C) (hcl : C.cl = cloFrom X.env.cells scope.names []) (hsc : C.scope = scope)
    (cp : X.Ok → Caps X (cloFrom X.env.cells scope.names []) (frD D) F.js) {A : Fr} {r : Rho} {F1 H1 : Hp} {σ : L2.St} {os : List Out} {vs : List V} {ds env : List Dat} {W : Wd} {np : Nat} {o : Out} {r' : Rho} {Q : VK} {z : Out × Dat} {f : Addr}
    (ok : A.K = X.kw G) (fit : Fit A r F1 σ H1) (ko : OutsOk A r F1 σ H1 os vs) (hv : ∀ o ∈ os, ∃ d, o = .val d) (hd : resAll r os = some ds) (he : envOf r F.js = some env) (n1 : noFns ds = true) (n2 : env.all envD = true) (n3 : kd = 0 → noFns env = true)
    (hp : W.phi F.g (ds ++ [.fn F.c env]) = some z) (hnp : ∀ ds x, W.phi F.g ds = some x → ds.length = np) (hz : plainO r z = some (o, r')) (hf : F1 f = some (CloO f C)) (hc : F1 C.c = some (CodeO C.c C.qual))
    (w : ∀ v F' H', Same F1 F' → Fit A r' F' σ H' → OutOk A r' F' σ H' o v → Q v H') : ∀ pins s, Inv X pins σ H1 s → spS Z.T ⟨X.K, X.w, CK0 Z.T G.nm G.tbs⟩ np (W.phi F.g) X.stack s (vs ++ [.ref f]) H1 Q E0 := by
  intro pins s I
  obtain ⟨ws, e1, e2⟩ := env_ws fit he
  rw [ok] at e2
  have e3 : DenL ⟨X.K, X.w, CK0 Z.T G.nm G.tbs⟩ F1 env ws := by
    rcases hG with hk | hG
    · exact DenL.kw (K := X.kw G) (K' := ⟨X.K, X.w, CK0 Z.T G.nm G.tbs⟩) rfl rfl env (n3 hk) e2
    · exact env_den (K := X.kw G) (K' := ⟨X.K, X.w, CK0 Z.T G.nm G.tbs⟩) rfl rfl (fun v c h => hG F1 v c h) n2 e2
  have caps := cp I.ok
  have C1 := cells_of I caps
  rw [e1] at C1
  obtain ⟨oz, dz⟩ := z
  obtain ⟨x, hoz, nx, rfl, rfl⟩ : ∃ x, oz = .val x ∧ noFn x = true ∧ o = .val x ∧ r' = r := by
    cases oz with
    | val x =>
      have hz : (if noFn x = true then some (Out.val x, r) else none) = some (o, r') := hz
      split at hz
      · rename_i nx
        cases hz
        exact ⟨x, rfl, nx, rfl, rfl⟩
      · cases hz
    | fresh x => cases hz
    | place x => cases hz
  have dl := OutsOk.denL hv hd ko
  rw [ok] at dl
  have kn : ck1 Z.T ⟨X.K, X.w, CK0 Z.T G.nm G.tbs⟩ X.stack s.heap H1 F1 (.ref f) F.c env := by
    by_cases hen : env = []
    · subst hen
      have hws : ws = [] := e3
      subst hws
      have hj : F.js = [] := by
        cases hjs : F.js with
        | nil => rfl
        | cons j js => rw [hjs] at e1; cases e1
      have hfr : frD D = [] := by
        have := caps.at_
        rw [hj] at this
        cases hfd : frD D with
        | nil => rfl
        | cons a b => rw [hfd] at this; cases this
      refine .inl ⟨rfl, f, C, D, rfl, hf, hc, hD, hC, ?_, hfr⟩
      rw [hcl]
      refine clo_none fun y hy e => ?_
      have := hC.sc.free y (by rw [hsc]; exact hy) e
      rw [hfr] at this
      cases this
    · refine .inr ⟨hen, f, C, D, ws, rfl, hf, hc, hD, hC, by rw [hcl]; exact C1, fun y c e => ?_, e3⟩
      rw [hcl] at e
      exact cells_fs I (M.fn y) (caps.sub y c e)
  have da : DenL ⟨X.K, X.w, CK1 Z.T ⟨X.K, X.w, CK0 Z.T G.nm G.tbs⟩ X.stack s.heap H1⟩ F1 (ds ++ [.fn F.c env]) (vs ++ [.ref f]) := DenL.app (DenL.kw (K := X.kw G) (K' := ⟨X.K, X.w, CK1 Z.T ⟨X.K, X.w, CK0 Z.T G.nm G.tbs⟩ X.stack s.heap H1⟩) rfl rfl ds n1 dl) (DenL.one kn)
  have hl := hnp _ _ hp
  have tb : TabsK ⟨X.K, X.w, CK1 Z.T ⟨X.K, X.w, CK0 Z.T G.nm G.tbs⟩ X.stack s.heap H1⟩ F1 H1 := by
    have := fit.tab
    rw [ok] at this
    exact this.kw rfl rfl
  refine ⟨F1, ds ++ [.fn F.c env], _, dz, hp, ⟨fit.sub, by rw [← DenL.length da]; exact hl, hl, fun j d u hj hu _ => ?_, (fun _ _ _ _ _ z => nomatch z), tb⟩, fun u F' H' po => ?_⟩
  · obtain ⟨y, hy, dy⟩ := DenL.getD da hj
    rw [hu] at hy
    cases hy
    exact dy
  · have nw : New A.K F1 H1 F' H' := by
      rw [ok]
      exact post_new (K := X.kw G) (K0 := ⟨X.K, X.w, CK1 Z.T ⟨X.K, X.w, CK0 Z.T G.nm G.tbs⟩ X.stack s.heap H1⟩) rfl rfl po
    refine w u F' H' po.ff (fit.grow nw) ?_
    show Den A.K F' x u
    rw [ok]
    have hr := po.res
    rw [hoz] at hr
    exact Den.kw (K := ⟨X.K, X.w, CK1 Z.T ⟨X.K, X.w, CK0 Z.T G.nm G.tbs⟩ X.stack s.heap H1⟩) (K' := X.kw G) rfl rfl x nx hr
/-- the check of the end -/
def kd1 (T : List (Str × Df)) (g : Str) : Bool := match T.lookup g with
  | some D => decide (D.kd = 1) && D.io.isNone
  | none => false
def capB (Z : Sx) (scope : Scope) (F : Fin) : Bool := match Z.T.lookup (cloKey F.c) with
  | some D => ndefB Z.sc scope (frD D) && decide (F.js.map (fun j => Z.N[j]?) = (frD D).map some)
  | none => false
def finB (nm : Nat → Nat → Str) (q : Str) (Z : Sx) (F : Fin) (xs : List Stmt) : Bool := match xs with
  | [.Return (some (.Call (.Name y _) (a :: as) [] _)) _] => F.i.isNone && decide (F.g = y) && glB Z.sc y && !(y == ("__debug__" : Str)) && kd1 Z.T F.g && (match lastA Z F.es (a :: as) with
    | some (.Lambda params body scope pos) => codeB Z.T F.c params scope (.expr body) && decide (nm pos.line pos.col = q ++ "<lambda>") && capB Z scope F
    | _ => false)
  | [.FunctionDef name params body [] none [] scope none name' pos, .Return (some (.Call (.Name y _) (a :: as) [] _)) _] => decide (name' = name) && decide (F.g = y) && glB Z.sc y && !(y == ("__debug__" : Str)) && kd1 Z.T F.g && (match F.i, lastA Z F.es (a :: as) with
    | some i, some (.Name x _) => decide (x = name) && varB Z i name && chkN Z i name && stB Z.raw name && !decide (i ∈ Z.pro) && !decide (i ∈ F.js) && codeB Z.T F.c params scope (.stmts body) && decide (nm pos.line pos.col = q ++ name) && capB Z scope F
    | _, _ => false)
  | _ => false
theorem caps_of (g : GdX X Z n k G) {scope : Scope} {F : Fin} {D : Df} (hD : Z.T.lookup (cloKey F.c) = some D) (h : capB Z scope F = true) : (∀ y ∈ scope.names, y.2 = .free → X.env.scope.names.lookup y.1 = some .cell ∨ X.env.scope.names.lookup y.1 = some .free) ∧ (X.Ok → Caps X (cloFrom X.env.cells scope.names []) (frD D) F.js) := by
  unfold capB at h
  rw [hD] at h
  have h := and2 h
  have hf : ∀ y ∈ scope.names, y.2 = .free → X.env.scope.names.lookup y.1 = some .cell ∨ X.env.scope.names.lookup y.1 = some .free := by rw [g.sc]; exact ndef_free h.1
  exact ⟨hf, fun ok => Caps.made ok hf (ndef_fr h.1) (by rw [g.N]; exact of_decide_eq_true h.2)⟩
/-- what the end's reading is -/
abbrev rdFin (G : CK) (X : Cx) (pro : List Nat) (W : Wd) (kd : Nat) (F : Fin) : TS := rdS (X.kw G) pro fun r => (runF W kd F r).bind fun p => some (.ret p.1 p.2)
theorem fin_ok {q : Str} {c P : Addr} (g : GdX X Z n k G) (M : MkX X G q c P) {kd : Nat} (hG : kd = 0 ∨ ∀ F v c, G.ck F v c [] → ck0 Z.T F v c []) {F : Fin} {nm : Nat → Nat → Str} (hnm : G.nm = nm)
    (cs : ∀ f D, Z.T.lookup f = some D → D.kd = 1 → k = 0 ∨ CalS X.prog X.w X.K X.mg X.base k f (spS Z.T ⟨X.K, X.w, CK0 Z.T G.nm G.tbs⟩ D.ps ((Phi Z.T n k).phi f))) {xs : List Stmt} (h : finB nm q Z F xs = true) : PSs X xs (rdFin G X Z.pro (Phi Z.T n k) kd F) := by
  have zero : k = 0 → ∀ {D : Ends} {σ : L2.St} {H : Hp}, rdFin G X Z.pro (Phi Z.T n k) kd F D σ H → False := fun hk D σ H z => by
    obtain ⟨A, r, F0, fl, ok, fit, hm, w⟩ := z
    obtain ⟨⟨o, r1⟩, hm, _⟩ := bindS hm
    unfold runF at hm
    obtain ⟨⟨os, r2⟩, _, hm⟩ := bindS hm
    obtain ⟨ds, _, hm⟩ := bindS hm
    obtain ⟨env, _, hm⟩ := bindS hm
    split at hm
    · obtain ⟨y, hp, _⟩ := bindS hm
      subst hk
      cases hp
    · cases hm
  unfold finB at h
  split at h
  · rename_i y yp a as cpos rp
    have h1 := and2 h
    have h2 := and2 h1.1
    have h3 := and2 h2.1
    have h4 := and2 h3.1
    have h5 := and2 h4.1
    have e := of_decide_eq_true h5.2
    subst e
    have hi : F.i = none := Option.isNone_iff_eq_none.mp h5.1
    have hd : (F.g == ("__debug__" : Str)) = false := by
      have := h3.2
      rw [Bool.not_eq_true'] at this
      exact this
    obtain ⟨Dg, hDg, hkd⟩ : ∃ D, Z.T.lookup F.g = some D ∧ D.kd = 1 := by
      have h9 := h2.2
      unfold kd1 at h9
      split at h9
      · rename_i D hD
        exact ⟨D, hD, of_decide_eq_true (and2 h9).1⟩
      · cases h9
    have h6 := h1.2
    split at h6
    · rename_i params body scope pos hla
      have k1 := and2 h6
      have k2 := and2 k1.1
      obtain ⟨D, hD, hpar, hnsc, _, hC⟩ := code_facts k2.1
      obtain ⟨_, _, _, _, hdef⟩ := par_facts hpar
      obtain ⟨hfree, caps⟩ := caps_of g hD k1.2
      obtain ⟨hpa, hpl⟩ := last_head (Z := Z) (x := .Lambda params body scope pos) rfl F.es a as hla
      have hn : G.nm pos.line pos.col = q ++ "<lambda>" := by rw [hnm]; exact of_decide_eq_true k2.2
      rcases cs F.g Dg hDg hkd with hk | cs
      · exact ⟨fun pins s σ H D I z => (zero hk z).elim⟩
      · refine PSs.imp (pss_one (ps_ret (pe_callS cs g.room (g.gl h4.2) (sndAL g M (hdef _) hfree hn F.es (a :: as) hla) hd (plain_star hpa _ _) (hpl _ _)))) fun D' σ H z => ?_
        obtain ⟨A, r, F0, fl, ok, fit, hm0, w⟩ := z
        obtain ⟨⟨o, r1⟩, hm, hfl⟩ := bindS hm0
        cases hfl
        unfold runF at hm
        rw [hi] at hm
        obtain ⟨⟨os, r2⟩, ha, hm⟩ := bindS hm
        obtain ⟨ds, hds, hm⟩ := bindS hm
        obtain ⟨env, hen, hm⟩ := bindS hm
        split at hm
        · rename_i hc
          obtain ⟨y, hp, hz⟩ := bindS hm
          refine ⟨A, r, F0, os, r2, ok, fit, ha, fun vs F' H' f c' s1 f1 k3 e1 e2 => ?_⟩
          exact fin_core M hG hD (hC body rfl _ _ c') rfl rfl caps ok.k f1 k3 (vals_of_none F.es r os r2 ha) hds hen hc.1 hc.2.1 hc.2.2 hp (phi_len hDg) hz e1 e2 fun v F2 H2 s2 f2 o2 => w v σ F2 H2 (s1.trans s2) f2 o2
        · cases hm
    · cases h6
  · rename_i name params body scope name' pos y yp a as cpos rp
    have h1 := and2 h
    have h2 := and2 h1.1
    have h3 := and2 h2.1
    have h4 := and2 h3.1
    have h5 := and2 h4.1
    have e := of_decide_eq_true h5.2
    subst e
    have e := of_decide_eq_true h5.1
    subst e
    have hd : (F.g == ("__debug__" : Str)) = false := by
      have := h3.2
      rw [Bool.not_eq_true'] at this
      exact this
    obtain ⟨Dg, hDg, hkd⟩ : ∃ D, Z.T.lookup F.g = some D ∧ D.kd = 1 := by
      have h9 := h2.2
      unfold kd1 at h9
      split at h9
      · rename_i D hD
        exact ⟨D, hD, of_decide_eq_true (and2 h9).1⟩
      · cases h9
    have h6 := h1.2
    split at h6
    · rename_i i x xp hi hla
      have k1 := and2 h6
      have k2 := and2 k1.1
      have k3 := and2 k2.1
      have k4 := and2 k3.1
      have k5 := and2 k4.1
      have k6 := and2 k5.1
      have k7 := and2 k6.1
      have k8 := and2 k7.1
      have e := of_decide_eq_true k8.1
      subst e
      have hip : i ∉ Z.pro := by simpa using k5.2
      have hij : i ∉ F.js := by simpa using k4.2
      obtain ⟨D, hD, hpar, hnsc, hC, _⟩ := code_facts k3.2
      obtain ⟨_, hd0, hk0, hann, _⟩ := par_facts hpar
      obtain ⟨hfree, caps⟩ := caps_of g hD k1.2
      obtain ⟨hpa, hpl⟩ := last_head (Z := Z) (x := .Name x xp) rfl F.es a as hla
      have hn : G.nm pos.line pos.col = q ++ x := by rw [hnm]; exact of_decide_eq_true k2.2
      obtain ⟨s1, s2⟩ := g.st x k6.2
      have hN : X.N[i]? = some x := by rw [g.N]; exact of_decide_eq_true k7.2
      have nd : X.N.Nodup := by rw [g.N]; exact g.nd
      rcases cs F.g Dg hDg hkd with hk | cs
      · exact ⟨fun pins s σ H D I z => (zero hk z).elim⟩
      · refine PSs.imp (pss_cons (ps_defK (i := i) M.TB M.code hfree hd0 hk0 (hann _) nd hN s1 s2) (pss_one (ps_ret (pe_callS cs g.room (g.gl h4.2) (sndAN g k8.2 F.es (a :: as) hla) hd (plain_star hpa _ _) (hpl _ _))))) fun D' σ H z => ?_
        obtain ⟨A, r, F0, fl, ok, fit, hm0, w⟩ := z
        obtain ⟨⟨o, r1⟩, hm, hfl⟩ := bindS hm0
        cases hfl
        unfold runF at hm
        rw [hi] at hm
        obtain ⟨⟨os, r2⟩, ha, hm⟩ := bindS hm
        obtain ⟨ds, hds, hm⟩ := bindS hm
        obtain ⟨env, hen, hm⟩ := bindS hm
        split at hm
        · rename_i hc
          obtain ⟨y, hp, hz⟩ := bindS hm
          have hP : A.K.G.tb P = true := by rw [ok.k]; exact M.tb
          obtain ⟨fP, ps, t2, t3, t4⟩ := fit.tab P hP
          refine ⟨ps, t2, t3, fun cv hcv => ?_, fun hlen f c' H1 m => ?_⟩
          · obtain ⟨c0, e, _⟩ := t4 pos cv hcv
            exact ⟨c0, e⟩
          · rw [M.q] at m
            obtain ⟨F', nw, e1, e2⟩ := m.fit (K := A.K) fit.sub fit.tab hP t2 (by rw [ok.k]; exact hn)
            have f1 := fit.grow nw
            -- the slot holds the function; nothing is said of it
            have f2 : Fit A (r.set i none) F' (σ.set i (some (.ref f))) H1 := by
              refine (f1.forget i).moved (by rw [List.length_set, List.length_set]; exact f1.len) (fun j s e => ⟨e, ?_⟩) fun p hpp => ?_
              · rcases set_get e with ⟨_, z⟩ | ⟨nj, _⟩
                · cases z
                · rw [List.getElem?_set_ne (Ne.symm nj)]
              · have np : p.1 ≠ i := fun z => hip (by rw [← z]; exact ok.p p hpp)
                rw [List.getElem?_set_ne (Ne.symm np)]
                exact f1.pro p hpp
            have hlen : i < σ.length := by
              rw [hlen]
              exact (List.getElem?_eq_some_iff.mp hN).1
            refine ⟨A, r.set i none, F', os, r2, .ref f, ok, f2, ha, List.getElem?_set_self hlen, fun vs F2 H2 s3 f3 k9 => ?_⟩
            have hC' := hC body rfl x (q ++ x) (cloFrom X.env.cells scope.names []) c'
            refine fin_core M hG hD hC' rfl rfl caps ok.k f3 k9 (vals_of_none F.es _ os r2 ha) hds hen hc.1 hc.2.1 hc.2.2 hp (phi_len hDg) hz (s3 _ _ e1) (s3 _ _ e2) fun v F4 H4 s4 f4 o4 => w v _ F4 H4 ((nw.ff.trans s3).trans s4) f4 o4
        · cases hm
    · cases h6
  · cases h
end
end Dl

/-! D11: all defs of a text, to any depth. -/
namespace Dl
open PySem PySem.Spec PyProof.Rows L2 LamX NdefX

/-! ### a body with an end -/
/-- the statements ahead of the end; what is left -/
def chkPre (Z : Sx) : Ss → List Stmt → Option (List Stmt)
  | .nil, xs => some xs
  | .cons s ss, x :: xs => if chkS Z s x then chkPre Z ss xs else none
  | .cons _ _, [] => none
section
variable {X : Cx} {Z : Sx} {n k : Nat} {G : CK}
theorem pre_ok (g : GdX X Z n k G) {m : Rho → Option Fl} : ∀ (ss : Ss) (xs ys : List Stmt), chkPre Z ss xs = some ys → PSs X ys (rdS (X.kw G) Z.pro m) → PSs X xs (rdS (X.kw G) Z.pro fun r => match runB (Phi Z.T n k) n ss r with | some (.next r) => m r | x => x)
  | .nil, xs, ys, h, hy => by
    have h : some xs = some ys := h
    cases h
    refine PSs.imp hy fun D σ H z => ?_
    obtain ⟨A, r, F, fl, ok, fit, hm, q⟩ := z
    unfold runB at hm
    exact ⟨A, r, F, fl, ok, fit, hm, q⟩
  | .cons s ss, xs, ys, h, hy => by
    match xs, h with
    | [], h => cases h
    | x :: xs, h =>
      have h : (if chkS Z s x then chkPre Z ss xs else none) = some ys := h
      split at h
      · rename_i hc
        refine PSs.imp (pss_cons (sndS s g x hc) (pre_ok g ss xs ys h hy)) fun D σ H z => ?_
        obtain ⟨A, r, F, fl, ok, fit, h1, q⟩ := z
        unfold runB at h1
        dsimp only at h1
        cases hs : runS (Phi Z.T n k) n s r with
        | none => rw [hs] at h1; cases h1
        | some f1 =>
          rw [hs] at h1
          refine ⟨A, r, F, f1, ok, fit, hs, ?_⟩
          cases f1 with
          | next r1 => exact fun σ' F' H' s' f' => ⟨A, r1, F', fl, ok, f', h1, q.later s'⟩
          | brk r1 => cases h1; exact q
          | cont r1 => cases h1; exact q
          | ret o r1 => cases h1; exact q
      · cases h
end
def chkD (T : List (Str × Df)) (nm : Nat → Nat → Str) (f : Str) (D : Df) (sc : Scope) (xs : List Stmt) : Bool := match D.fin with
  | none => chkB (zOf T D sc) D.body xs
  | some F => match chkPre (zOf T D sc) D.body xs with
    | some ys => finB nm (f ++ ".<locals>.") (zOf T D sc) F ys
    | none => false

/-! ### the levels -/
section
variable (P : Program) (w : World) (K : PySem.W.Frag) (mg : Str → Option Value) (base : Heap) (T : List (Str × Df)) (n : Nat) (nm : Nat → Nat → Str) (tbs : List Addr)
abbrev KW0 : Kw := ⟨K, w, CK0 T nm tbs⟩
/-- all that is called keeps its promise, to the depth k -/
structure Lev (k : Nat) : Prop where
  a : ∀ f D, T.lookup f = some D → D.kd = 0 → ∀ G : CK, G.nm = nm → G.tbs = tbs → k = 0 ∨ Cal P w K mg base k f (spD ⟨K, w, G⟩ D.io D.ps ((Phi T n k).phi f))
  b : ∀ f D, T.lookup f = some D → D.kd = 1 → k = 0 ∨ CalS P w K mg base k f (spS T (KW0 w K T nm tbs) D.ps ((Phi T n k).phi f))
  c : ∀ c D C, T.lookup (cloKey c) = some D → IsC T D C → k = 0 ∨ ∀ f, COk P w K mg base k f C (frD D) (spC (KW0 w K T nm tbs) D.ps (frD D).length ((Phi T n k).phi (cloKey c)))
end
section
variable {P : Program} {w : World} {K : PySem.W.Frag} {mg : Str → Option Value} {base : Heap} {T : List (Str × Df)} {n : Nat} {nm : Nat → Nat → Str} {tbs : List Addr} {k : Nat}
theorem lev_ck0 (L : Lev P w K mg base T n nm tbs k) {X : Cx} {G : CK} (h1 : X.prog = P) (h2 : X.w = w) (h3 : X.K = K) (h4 : X.mg = mg) (h5 : X.base = base) (hn : G.nm = nm) (ht : G.tbs = tbs) {F : Hp} {v : V} {c : Nat} {env : List Dat} (z : ck0 T F v c env) : k = 0 ∨ CloK X G k ((Phi T n k).phi (cloKey c)) F v env := by
  subst h1 h2 h3 h4 h5
  obtain ⟨rfl, f, C, D, rfl, hf, hc, hD, hC, hcl, hfr⟩ := z
  rcases L.c c D C hD hC with hk | hk
  · exact .inl hk
  · exact .inr ⟨CK0 T nm tbs, f, C, frD D, [], D.ps, hn.symm, ht.symm, rfl, hf, hc, by rw [hcl, hfr]; exact cells_nil, (fun y c e => by rw [hcl] at e; cases e), hk f, rfl, phi_len hD⟩
theorem lev_ck1 (L : Lev P w K mg base T n nm tbs k) {X : Cx} (h1 : X.prog = P) (h2 : X.w = w) (h3 : X.K = K) (h4 : X.mg = mg) (h5 : X.base = base) {F : Hp} {v : V} {c : Nat} {env : List Dat} (z : ck1 T (KW0 w K T nm tbs) X.outer X.s_0.heap X.H_0 F v c env) :
    k = 0 ∨ CloK X (CK1 T (KW0 w K T nm tbs) X.outer X.s_0.heap X.H_0) k ((Phi T n k).phi (cloKey c)) F v env := by
  rcases z with z | ⟨ne, f, C, D, ws, rfl, hf, hc, hD, hC, hcells, hnf, hden⟩
  · exact lev_ck0 L h1 h2 h3 h4 h5 rfl rfl z
  · subst h1 h2 h3 h4 h5
    rcases L.c c D C hD hC with hk | hk
    · exact .inl hk
    · exact .inr ⟨CK0 T nm tbs, f, C, frD D, ws, D.ps, rfl, rfl, rfl, hf, hc, hcells, hnf, hk f, hden, phi_len hD⟩

/-- what stands of a def behind the top -/
structure DefAt (K : PySem.W.Frag) (mg : Str → Option Value) (T : List (Str × Df)) (nm : Nat → Nat → Str) (cs : List (Addr × Addr)) (f : Str) (D : Df) : Prop where
  ex : ∃ (ar : Arguments) (bd : List Stmt) (sc : Scope) (fa : Addr) (oc : Value) (od : Option Addr) (kV doc pm : Value) (an : Option Addr) (cdv ct : Value) (osl : Array (Option Value)), K.lookup fa = some ⟨oc, od, .func (PySem.W.fnOf f f ar bd sc .none kV doc pm an cdv ct), osl⟩ ∧ PySem.W.codeIn K cdv f = true ∧
    PySem.W.keepIn K (.ref fa) = true ∧ mg f = some (.ref fa) ∧ (∀ us : List Value, us.length = (D.N.take D.ps).length → bindArgs (PySem.W.fnOf f f ar bd sc .none kV doc pm an cdv ct) ⟨us, []⟩ = pure ((D.N.take D.ps).zip us)) ∧
    FnScope D.N (D.N.take D.ps) sc ∧ D.ps ≤ D.N.length ∧ chkD T nm f D sc bd = true ∧ (D.fin.isSome = true → ∃ c Pt, cdv = .ref c ∧ (c, Pt) ∈ cs) ∧ (D.kd = 1 → D.io = none)

/-- the context of a def's body -/
theorem gdx_def (L : Lev P w K mg base T n nm tbs k) (bi : ∀ x ∈ bnames, mg x = none) {D : Df} {f : Str} {sc : Scope} {fa : Addr} {cdv : Value} {A : Around} {outer : List Env} {s : Shared} {H : Hp} {E : XK} {G : CK} (S : FnScope D.N (D.N.take D.ps) sc) (hr : Room k (A.deeper (envOfC f sc s.heap.objs.size fa cdv))) (hn : G.nm = nm) (ht : G.tbs = tbs)
    (hG : D.kd = 0 ∨ G = CK1 T (KW0 w K T nm tbs) outer s.heap H) : GdX (cxOf CX0 P w K mg base D.N f sc fa cdv A outer s H E).nox (zOf T D sc) n k G := by
  refine ⟨rfl, S.nd, rfl, fun x hx => ⟨?_, .inl rfl⟩, rfl, hr, PassesOwn.never, bi, fun f D h h0 => L.a f D h h0 G hn ht, S.kind, fun hz => ⟨rfl, fun F v c env z => ?_⟩⟩
  · unfold stB at hx
    show Loc sc x
    split at hx
    · rename_i e; exact .inl e
    · rename_i e; exact .inr e
    · cases hx
  · rcases hG with h0 | rfl
    · have hz : (D.kd != 0) = true := hz
      rw [h0] at hz
      cases hz
    · exact lev_ck1 L (X := (cxOf CX0 P w K mg base D.N f sc fa cdv A outer s H E).nox) rfl rfl rfl rfl rfl z
/-- a def's statements -/
theorem def_sts (L : Lev P w K mg base T n nm tbs k) {cs : List (Addr × Addr)} (htbs : tbs = cs.map (·.2)) (TB : ∀ p ∈ cs, TabB base mg p.1 p.2) (bi : ∀ x ∈ bnames, mg x = none) {D : Df} {f : Str} {bd : List Stmt} {sc : Scope} {fa : Addr} {cdv : Value} {A : Around} {outer : List Env} {s : Shared} {H : Hp} {E : XK} {G : CK}
    (S : FnScope D.N (D.N.take D.ps) sc) (hr : Room k (A.deeper (envOfC f sc s.heap.objs.size fa cdv))) (hn : G.nm = nm) (ht : G.tbs = tbs) (hG : D.kd = 0 ∨ G = CK1 T (KW0 w K T nm tbs) outer s.heap H) (hc : chkD T nm f D sc bd = true) (hm : D.fin.isSome = true → ∃ c Pt, cdv = .ref c ∧ (c, Pt) ∈ cs) :
    PSs (cxOf CX0 P w K mg base D.N f sc fa cdv A outer s H E).nox bd (rdS ⟨K, w, G⟩ (proN D.io) (bodyM (Phi T n k) n D)) := by
  have g := gdx_def (E := E) L bi S hr hn ht hG
  unfold chkD at hc
  unfold bodyM
  cases hf : D.fin with
  | none =>
    rw [hf] at hc
    exact sndB D.body g _ hc
  | some F =>
    rw [hf] at hc
    dsimp only at hc
    split at hc
    · rename_i ys hys
      obtain ⟨c, Pt, rfl, hcs⟩ := hm (by rw [hf]; rfl)
      have M : MkX (cxOf CX0 P w K mg base D.N f sc fa (.ref c) A outer s H E).nox G (f ++ ".<locals>.") c Pt := ⟨TB _ hcs, rfl, by unfold CK.tb; rw [ht, htbs]; exact decide_eq_true (List.mem_map.mpr ⟨_, hcs, rfl⟩), rfl, fun _ => rfl⟩
      have hk : D.kd = 0 ∨ ∀ F v c, G.ck F v c [] → ck0 T F v c [] := by
        rcases hG with h | rfl
        · exact .inl h
        · refine .inr fun F v c z => ?_
          rcases z with z | ⟨ne, _⟩
          · exact z
          · exact absurd rfl ne
      have q := fin_ok (Z := zOf T D sc) g M hk hn (fun f D h h1 => by
        have := L.b f D h h1
        rw [← hn, ← ht] at this
        exact this) hc
      exact pre_ok g D.body bd ys hys q
    · cases hc
/-- a closure's frame -/
theorem gdx_clo (L : Lev P w K mg base T n nm tbs k) (bi : ∀ x ∈ bnames, mg x = none) {D : Df} {F : NF} {fr : List Str} {f : Addr} {A : Around} {outer : List Env} {s : Shared} {H : Hp} {E : XK} (S : NScope D.N (D.N.take D.np) fr F.scope) (hr : Room k (A.deeper (envF F f s.heap.objs.size))) :
    GdX (ncx CX0 P w K mg base D.N F f A outer s H E).nox (zOf T D F.scope) n k (CK0 T nm tbs) := by
  refine ⟨rfl, S.nd, rfl, fun x hx => ?_, rfl, hr, PassesOwn.never, bi, fun f D h h0 => L.a f D h h0 _ rfl rfl, S.kind, fun _ => ⟨rfl, fun F' v c env z => ?_⟩⟩
  · unfold stB at hx
    have e : F.scope.names.lookup x = some .local := by
      split at hx
      · assumption
      · rename_i e
        exact absurd rfl (S.nocell _ (PySem.mem_of_lookup e))
      · cases hx
    exact ⟨.inl e, .inr e⟩
  · exact lev_ck0 L (X := (ncx CX0 P w K mg base D.N F f A outer s H E).nox) (G := CK0 T nm tbs) rfl rfl rfl rfl rfl rfl rfl z
/-- a def's promise -/
theorem fn_def (L : Lev P w K mg base T n nm tbs k) {cs : List (Addr × Addr)} (htbs : tbs = cs.map (·.2)) (TB : ∀ p ∈ cs, TabB base mg p.1 p.2) (bi : ∀ x ∈ bnames, mg x = none) {D : Df} {f : Str} (h : T.lookup f = some D) (h0 : D.kd = 0) {G : CK} (hn : G.nm = nm) (ht : G.tbs = tbs) {ar : Arguments} {bd : List Stmt} {sc : Scope} {fa : Addr} {oc : Value} {od : Option Addr} {kV doc pm : Value} {an : Option Addr} {cdv ct : Value} {osl : Array (Option Value)}
    (lk : K.lookup fa = some ⟨oc, od, .func (PySem.W.fnOf f f ar bd sc .none kV doc pm an cdv ct), osl⟩) (hcd : PySem.W.codeIn K cdv f = true) (S : FnScope D.N (D.N.take D.ps) sc) (hps : D.ps ≤ D.N.length) (hc : chkD T nm f D sc bd = true) (hfin : D.fin.isSome = true → ∃ c Pt, cdv = .ref c ∧ (c, Pt) ∈ cs) :
    FnOk P w K mg base CX0 (k + 1) fa (PySem.W.fnOf f f ar bd sc .none kV doc pm an cdv ct) (D.N.take D.ps) (spD ⟨K, w, G⟩ D.io D.ps ((Phi T n (k + 1)).phi f)) := by
  refine fn_of lk hcd S (fun vs H Q E z => ?_) (fun A outer s H vs Q E hr z => ?_)
  · obtain ⟨_, _, _, _, _, a, _⟩ := z
    rw [a.lv, List.length_take]
    omega
  · obtain ⟨F0, ds, o, d, hp, a, q⟩ := z
    have hp : (match T.lookup f with | some D => runD (Phi T n k) n D ds | none => none) = some (o, d) := hp
    rw [h] at hp
    obtain ⟨t, ht', hq⟩ := body_ok (X := (cxOf CX0 P w K mg base D.N f sc fa cdv A outer s H E).nox) (G := G) (def_sts (E := E) L htbs TB bi S hr hn ht (.inl h0) hc hfin) hp a q
    exact ⟨t, ht'.nox, hq⟩
theorem startF_eq (N : List Str) (vs ws : List V) : startF N vs (ws.map some) = L2.start N (vs ++ ws) := by
  unfold startF L2.start
  rw [List.map_append, List.append_assoc, List.length_map, List.length_append, Nat.sub_sub]
theorem lev_succ (L : Lev P w K mg base T n nm tbs k) {cs : List (Addr × Addr)} (htbs : tbs = cs.map (·.2)) (TB : ∀ p ∈ cs, TabB base mg p.1 p.2) (bi : ∀ x ∈ bnames, mg x = none) (da : ∀ f D, T.lookup f = some D → D.kd ≠ 2 → DefAt K mg T nm cs f D) : Lev P w K mg base T n nm tbs (k + 1) := by
  have ph : ∀ {f : Str} {D : Df}, T.lookup f = some D → ∀ {ds x}, (Phi T n (k + 1)).phi f ds = some x → runD (Phi T n k) n D ds = some x := fun {f D} h {ds x} e => by
    have e : (match T.lookup f with | some D => runD (Phi T n k) n D ds | none => none) = some x := e
    rw [h] at e
    exact e
  refine ⟨fun f D h h0 G hn ht => .inr ?_, fun f D h h1 => .inr ?_, fun c D C h hC => .inr fun f => ?_⟩
  · obtain ⟨ar, bd, sc, fa, oc, od, kV, doc, pm, an, cdv, ct, osl, lk, hcd, kp, hm, hb, S, hps, hc, hfin, _⟩ := (da f D h (by rw [h0]; decide)).ex
    exact ⟨fa, _, _, fn_def L htbs TB bi h h0 hn ht lk hcd S hps hc hfin, hm, kp, fun s us _ hl => .of_eq (by rw [List.append_nil]; exact hb us (by rw [List.append_nil] at hl; exact hl))⟩
  · obtain ⟨ar, bd, sc, fa, oc, od, kV, doc, pm, an, cdv, ct, osl, lk, hcd, kp, hm, hb, S, hps, hc, hfin, hk1⟩ := (da f D h (by rw [h1]; decide)).ex
    refine ⟨fa, fun A outer s H us vs Q E hr e0 r z => ?_, hm, kp⟩
    obtain ⟨F0, ds, o, d, hp, a, q⟩ := z
    have hl : vs.length = (D.N.take D.ps).length := by
      rw [a.lv, List.length_take]
      omega
    have hio : D.io = none := hk1 h1
    refine run_ofS lk hcd S hr e0 (.of_eq (hb us (by rw [← r.length]; exact hl))) r hl fun hr' => ?_
    rw [← hio] at a q
    obtain ⟨t, ht', hq⟩ := body_ok (X := (cxOf CX0 P w K mg base D.N f sc fa cdv A outer s H E).nox) (G := CK1 T (KW0 w K T nm tbs) outer s.heap H) (def_sts (E := E) L htbs TB bi S hr' rfl rfl (.inr rfl) hc hfin) (ph h hp) a q
    exact ⟨t, ht'.nox, hq⟩
  · have hlen : ∀ ws vs H Q E, spC (KW0 w K T nm tbs) D.ps (frD D).length ((Phi T n (k + 1)).phi (cloKey c)) ws vs H Q E → vs.length = (D.N.take D.np).length := fun wo vs H Q E z => by
      obtain ⟨ws, rfl, hw, F0, ds, o, d, hp, a, q⟩ := z
      have h1 := a.lv
      rw [List.length_append, hC.ps] at h1
      rw [hC.np]
      omega
    have hpro : proN D.io = [] := by rw [hC.io]; rfl
    rcases hC.code with ⟨name, params, body, hcf, hpar, hchk⟩ | ⟨params, body, e, hbd, hcf, hpar, hchk⟩
    · have S := hC.sc
      generalize hNF : (⟨name, C.qual, params, body, C.scope, C.cl, C.c⟩ : NF) = NFn at hcf
      have eS : NFn.scope = C.scope := by rw [← hNF]
      have eB : NFn.body = body := by rw [← hNF]
      have eP : NFn.params = params := by rw [← hNF]
      rw [hcf]
      refine cok_def (nok_of (N := D.N) (ps := D.N.take D.np) (by rw [eS]; exact S) (fun doc pm ctv us hl => (par_facts hpar).1 _ us (by rw [← eP]) rfl rfl hl) hlen fun A outer s H vs wo Q E hr _ _ _ z => ?_)
      obtain ⟨ws, rfl, hw, F0, ds, o, d, hp, a, q⟩ := z
      have g := gdx_clo (E := E) (F := NFn) (f := f) (outer := outer) (H := H) L bi (D := D) (fr := frD D) (by rw [eS]; exact S) hr
      have hs : PSs (ncx CX0 P w K mg base D.N NFn f A outer s H E).nox NFn.body (rdS (KW0 w K T nm tbs) (proN D.io) (bodyM (Phi T n k) n D)) := by
        unfold bodyM
        rw [hC.fin]
        exact sndB D.body g _ (by rw [eS, eB]; exact hchk)
      rw [← hC.io] at a q
      obtain ⟨t, ht', hq⟩ := body_ok (X := (ncx CX0 P w K mg base D.N NFn f A outer s H E).nox) (G := CK0 T nm tbs) hs (ph h hp) a q
      rw [startF_eq]
      exact ⟨t, ht'.nox, hq⟩
    · have S := hC.sc
      generalize hNF : (⟨"<lambda>", C.qual, params, [], C.scope, C.cl, C.c⟩ : NF) = NFn
      have eS : NFn.scope = C.scope := by rw [← hNF]
      have e2 : C = CF.ofLam NFn.qual NFn.params body NFn.scope NFn.cl NFn.c := by rw [← hNF]; exact hcf
      have eP : NFn.params = params := by rw [← hNF]
      rw [e2]
      refine cok_lam (N := D.N) (ps := D.N.take D.np) (by rw [eS]; exact S) (fun pm ctv us hl => (par_facts hpar).1 _ us (by rw [← eP]) rfl rfl hl) hlen fun A outer s H vs wo Q E hr _ z => ?_
      obtain ⟨ws, rfl, hw, F0, ds, o, d, hp, a, q⟩ := z
      have g := gdx_clo (E := E) (F := NFn) (f := f) (outer := outer) (H := H) L bi (D := D) (fr := frD D) (by rw [eS]; exact S) hr
      rw [← hC.io] at a q
      have rd := body_rd (ph h hp) a q
      unfold bodyM at rd
      rw [hC.fin, hbd] at rd
      have r2 := imp_ret (imp_bcons rd)
      rw [startF_eq]
      exact ⟨_, (sndE e g body (by rw [eS]; exact hchk)).nox, r2⟩
/-- to any depth -/
theorem lev_all {cs : List (Addr × Addr)} (htbs : tbs = cs.map (·.2)) (TB : ∀ p ∈ cs, TabB base mg p.1 p.2) (bi : ∀ x ∈ bnames, mg x = none) (da : ∀ f D, T.lookup f = some D → D.kd ≠ 2 → DefAt K mg T nm cs f D) : ∀ k, Lev P w K mg base T n nm tbs k
  | 0 => ⟨fun _ _ _ _ _ _ _ => .inl rfl, fun _ _ _ _ => .inl rfl, fun _ _ _ _ _ => .inl rfl⟩
  | k + 1 => lev_succ (lev_all htbs TB bi da k) htbs TB bi da
/-- a def, from what the head tells of it -/
theorem at_mk {h : Heap} (X : K.In h) (G : h.Ns mainGlobals mg) {cs : List (Addr × Addr)} {f : Str} {D : Df} {st : Stmt} {fa : Addr} {od an : Option Addr} {sl : Array (Option Value)} {oc kV dc pm cd ct : Value}
    (S : FnScope D.N (D.N.take D.ps) (defScope st)) (hps : D.ps ≤ D.N.length) (hc : chkD T nm f D (defScope st) (defBody st) = true)
    (b : ∀ (kV doc pm : Value) (an : Option Addr) (cdv ct : Value) (us : List Value), us.length = (D.N.take D.ps).length → bindArgs (PySem.W.fnOf f f (defArgs st) (defBody st) (defScope st) .none kV doc pm an cdv ct) ⟨us, []⟩ = pure ((D.N.take D.ps).zip us))
    (a1 : PySem.W.nsIn K mainGlobals f = some (some (.ref fa))) (l1 : K.lookup fa = some ⟨oc, od, .func (PySem.W.fnOf f f (defArgs st) (defBody st) (defScope st) .none kV dc pm an cd ct), sl⟩) (c1 : PySem.W.codeIn K cd f = true) (k1 : PySem.W.keepIn K (.ref fa) = true)
    (hfin : D.fin.isSome = true → ∃ c Pt, cd = .ref c ∧ (c, Pt) ∈ cs) (hk1 : D.kd = 1 → D.io = none) : DefAt K mg T nm cs f D :=
  ⟨_, _, _, fa, oc, od, kV, dc, pm, an, cd, ct, sl, l1, c1, k1, PySem.W.mg_of X G a1, b kV dc pm an cd ct, S, hps, hc, hfin, hk1⟩
/-! ### the law -/
/-- the table of code objects that a code object names -/
def tabOfK (K : PySem.W.Frag) (c : Addr) : Addr := match K.lookup c with
  | some ⟨_, _, .fields vs, _⟩ => match (vs[11]? : Option Value) with
    | some (.ref P) => P
    | _ => 0
  | _ => 0
theorem law_at {l : PySem.W.OpenLaw} {h : Heap} {fa : Addr} (KX : K.In h) (hfa : mg "law" = some (.ref fa)) {cs : List (Addr × Addr)} (hT : ∀ p ∈ cs, h.get? p.2 = some { cls := .none, data := .fields #[] }) (nT : ∀ p ∈ cs, K.lookup p.2 = none) (C : ∀ p ∈ cs, PySem.W.codeHdIn K p.1 p.2 = true)
    (bi : ∀ x ∈ bnames, mg x = none) (da : ∀ f D, T.lookup f = some D → D.kd ≠ 2 → DefAt K mg T nm cs f D) {D : Df} (hD : T.lookup ("law" : Str) = some D) (hkd : D.kd = 0) (hio : D.io = none) (hp1 : D.ps = 1) (hN : D.N.take D.ps = [("script" : Str)])
    (ht : ∀ ns : List Int, ns.length ≤ 63 → (Phi T n (k + 1)).phi "law" [.lst (ns.map .int)] = some (.val (.bl true), .non)) : LawAtS l w K CX0 (k + 1) 63 "script" mg fa h := by
  obtain ⟨ar, bd, sc, fb, oc, od, kV, doc, pm, an, cdv, ct, osl, lk, hcd, kp, hm, hb, S, hps, hc, hfin, _⟩ := (da _ D hD (by rw [hkd]; decide)).ex
  have e := hfa.symm.trans hm
  cases e
  refine ⟨PySem.W.fnOf "law" "law" ar bd sc .none kV doc pm an cdv ct, cs, spD (KW0 w K T nm (cs.map (·.2))) none 1 ((Phi T n (k + 1)).phi "law"), hT, nT, fun p hp => PySem.W.codeHd_of_K KX (C p hp), fun s u => .of_eq ?_, fun H a ns hl _ hH hS => ?_, fun base KB GB TB => ?_⟩
  · have := hb [u] (by rw [hN]; rfl)
    rw [hN] at this
    exact this
  · have tb : ∀ {P}, (KW0 w K T nm (cs.map (·.2))).G.tb P = true → H P = some (.tbl #[]) := fun {P} z => by
      obtain ⟨p, hp, rfl⟩ := List.mem_map.mp (of_decide_eq_true z)
      exact hH p hp
    have off : ∀ {b o}, H b = some o → (∀ ps, o ≠ .tbl ps) → noT (KW0 w K T nm (cs.map (·.2))) H b = some o := fun {b o} e nt => by
      rw [noT_eq]
      · exact e
      · cases z : (KW0 w K T nm (cs.map (·.2))).G.tb b with
        | false => rfl
        | true =>
          rw [tb z] at e
          exact absurd (Option.some.inj e).symm (nt _)
    have hS2 : SqL K (noT (KW0 w K T nm (cs.map (·.2))) H) a (ns.map V.int) := by
      rcases hS with (z | ⟨ob, z⟩) | z
      · exact .inl (.inl (off z (fun ps z => nomatch z)))
      · exact .inl (.inr ⟨ob, off z (fun ps z => nomatch z)⟩)
      · exact .inr z
    refine ⟨noT (KW0 w K T nm (cs.map (·.2))) H, _, _, _, ht ns hl, ⟨fun b o e => (noT_some e).2, rfl, rfl, fun i d v hd hv _ => ?_, (fun _ _ _ _ _ z => nomatch z), fun P hP => ⟨noT_tb hP, #[], tb hP, True.intro, fun pos cv hc => ?_⟩⟩, fun v F' H' po => po.res⟩
    · cases i with
      | zero =>
        cases hd
        cases hv
        exact ⟨a, _, rfl, hS2, by rw [List.length_map]; exact small_line (by omega), DenL.of_ints ns⟩
      | succ i => cases hd
    · have z : codeAmong pos [] = some cv := hc
      simp [codeAmong] at z
  · have L := lev_all (P := l.prog) (w := w) (base := base) (n := n) (tbs := cs.map (·.2)) rfl TB bi da k
    have := fn_def L rfl TB bi hD hkd (G := CK0 T nm (cs.map (·.2))) rfl rfl lk hcd S hps hc hfin
    rw [hN, hio, hp1] at this
    exact this
end
end Dl

/-! L0: running terms of the small language: equations, loops. -/
namespace Dl
open PySem PySem.Spec PyProof.Rows L2

section
variable {W : Wd} {n : Nat} {r : Rho}
@[simp] theorem run_var (i : Nat) : Dl.run W (.var i) r = (look r i).bind fun _ => some (.place i, r) := by rw [Dl.run]; rfl
@[simp] theorem run_non : Dl.run W .non r = some (.val .non, r) := by rw [Dl.run]
@[simp] theorem run_bl (b : Bool) : Dl.run W (.bl b) r = some (.val (.bl b), r) := by rw [Dl.run]
@[simp] theorem run_int (i : Int) : Dl.run W (.int i) r = some (.val (.int i), r) := by rw [Dl.run]
@[simp] theorem run_str (x : Str) : Dl.run W (.str x) r = some (.val (.str x), r) := by rw [Dl.run]
@[simp] theorem run_tup (es : Es) : Dl.run W (.tup es) r = (runL W es r).bind fun p => some (.val (.tup p.1), p.2) := by rw [Dl.run]; rfl
@[simp] theorem run_lst (es : Es) : Dl.run W (.lst es) r = (runL W es r).bind fun p => some (.fresh (.lst p.1), p.2) := by rw [Dl.run]; rfl
@[simp] theorem run_op1 (k : K1) (a : E) : Dl.run W (.op1 k a) r = (Dl.run W a r).bind fun p => (res p.2 p.1).bind fun d => (sem1 k d).bind fun o => some (o, p.2) := by rw [Dl.run]; rfl
@[simp] theorem run_op2 (k : K2) (a b : E) : Dl.run W (.op2 k a b) r = (Dl.run W a r).bind fun p => (res p.2 p.1).bind fun d1 => if pre2 k d1 = true then (Dl.run W b p.2).bind fun q => (res q.2 p.1).bind fun d => (res q.2 q.1).bind fun e => (sem2 k d e).bind fun o => some (o, q.2) else none := by rw [Dl.run]; rfl
@[simp] theorem run_cut (a : E) (lo hi : Oe) : Dl.run W (.cut a lo hi) r = (Dl.run W a r).bind fun p => (runO W lo p.2).bind fun l => (runO W hi l.2).bind fun h => (res h.2 p.1).bind fun d => (semCut d l.1 h.1).bind fun o => some (o, h.2) := by rw [Dl.run]; rfl
@[simp] theorem run_rev (a : E) : Dl.run W (.rev a) r = (Dl.run W a r).bind fun p => (res p.2 p.1).bind fun d => (semRev d).bind fun o => some (o, p.2) := by rw [Dl.run]; rfl
@[simp] theorem run_and (a b : E) : Dl.run W (.and a b) r = (Dl.run W a r).bind fun p => (frz p.2 p.1).bind fun d => (truthD d.1).bind fun t => if t = true then Dl.run W b d.2 else some (.val d.1, d.2) := by rw [Dl.run]; rfl
@[simp] theorem run_or (a b : E) : Dl.run W (.or a b) r = (Dl.run W a r).bind fun p => (frz p.2 p.1).bind fun d => (truthD d.1).bind fun t => if t = true then some (.val d.1, d.2) else Dl.run W b d.2 := by rw [Dl.run]; rfl
@[simp] theorem run_not (a : E) : Dl.run W (.not a) r = (Dl.run W a r).bind fun p => (res p.2 p.1).bind fun d => (truthD d).bind fun t => some (.val (.bl (!t)), p.2) := by rw [Dl.run]; rfl
@[simp] theorem run_ite (t : T) (a b : E) : Dl.run W (.ite t a b) r = (runT W t r).bind fun p => if p.1 = true then Dl.run W a p.2 else Dl.run W b p.2 := by rw [Dl.run]; rfl
@[simp] theorem run_call (f : Str) (es : Es) : Dl.run W (.call f es) r = (W.io f).bind fun io => (runA W es io r).bind fun p => (resAll p.2 p.1).bind fun ds => (W.phi f ds).bind fun z => (giveBack p.2 io p.1 z.2).bind fun r => some (z.1, r) := by rw [Dl.run]; rfl
@[simp] theorem run_callB (f : Str) (es : Es) : Dl.run W (.callB f es) r = (W.io f).bind fun io => if io = none then (runP W es r).bind fun p => (resAll p.2 p.1).bind fun ds => (W.phi f ds).bind fun z => (match z.1 with | .val d => if flatD d = true then some (.val d, p.2) else none | _ => none) else none := by rw [Dl.run]; rfl
@[simp] theorem runP_nil : runP W .nil r = some ([], r) := by rw [runP]
@[simp] theorem runP_cons (e : E) (es : Es) : runP W (.cons e es) r = (Dl.run W e r).bind fun p => (runP W es p.2).bind fun q => some (p.1 :: q.1, q.2) := by rw [runP]; rfl
theorem run_comp (own : List Nat) (tg : Tg) (src : Src) (c : Ot) (elt : E) : Dl.run W (.comp own tg src c elt) r = (runI W src r).bind fun p => (compD (turnC W own tg c elt) p.1 (wipeR p.2 own)).bind fun z => some (.fresh (.lst z.1), back p.2 z.2 own) := by rw [Dl.run]; rfl
theorem run_pop (i : Nat) (a : E) : Dl.run W (.pop i a) r = (look r i).bind fun s => if isLst s.d = true then (Dl.run W a r).bind fun p => (res p.2 p.1).bind fun d => (match look p.2 i, d with
      | some ⟨.lst ds, .own⟩, .int k => (ixN ds.length k).bind fun j => (ds[j]?).bind fun x => some (.val x, p.2.set i (some ⟨.lst (ds.eraseIdx j), .own⟩))
      | some ⟨.lst ds, .io⟩, .int k => (ixN ds.length k).bind fun j => (ds[j]?).bind fun x => some (.val x, p.2.set i (some ⟨.lst (ds.eraseIdx j), .io⟩))
      | _, _ => none) else none := by rw [Dl.run]; rfl
theorem run_app (i : Nat) (a : E) : Dl.run W (.app i a) r = (look r i).bind fun s => if isLst s.d = true then (Dl.run W a r).bind fun p => (frz p.2 p.1).bind fun x => (match look x.2 i with
      | some ⟨.lst ds, .own⟩ => if ds.length < sizeLine then some (.val .non, x.2.set i (some ⟨.lst (ds ++ [x.1]), .own⟩)) else none
      | some ⟨.lst ds, .io⟩ => if ds.length < sizeLine then some (.val .non, x.2.set i (some ⟨.lst (ds ++ [x.1]), .io⟩)) else none
      | _ => none) else none := by rw [Dl.run]; rfl
@[simp] theorem run_dct (es : Es) : Dl.run W (.dct es) r = (runL W es r).bind fun p => (mkD p.1 [] []).bind fun d => some (.fresh d, p.2) := by rw [Dl.run]; rfl
theorem run_setd (i : Nat) (k x : E) : Dl.run W (.setd i k x) r = (look r i).bind fun s => if isDct s.d = true then (Dl.run W k r).bind fun p => (frz p.2 p.1).bind fun a => (Dl.run W x a.2).bind fun q => (frz q.2 q.1).bind fun b => (match look b.2 i with
      | some ⟨.dct ks vs, .own⟩ => if okey ks a.1 = true ∧ ks.length < sizeLine ∧ vs.length = ks.length then (match getV a.1 ks vs with
          | some e => some (.val e, b.2)
          | none => some (.val b.1, b.2.set i (some ⟨putD a.1 b.1 ks vs, .own⟩))) else none
      | some ⟨.dct ks vs, .io⟩ => if okey ks a.1 = true ∧ ks.length < sizeLine ∧ vs.length = ks.length then (match getV a.1 ks vs with
          | some e => some (.val e, b.2)
          | none => some (.val b.1, b.2.set i (some ⟨putD a.1 b.1 ks vs, .io⟩))) else none
      | _ => none) else none := by rw [Dl.run]; rfl
theorem run_ins (i : Nat) (a b : E) : Dl.run W (.ins i a b) r = (look r i).bind fun s => if isLst s.d = true then (Dl.run W a r).bind fun p => (frz p.2 p.1).bind fun k => (Dl.run W b k.2).bind fun q => (frz q.2 q.1).bind fun x => (match look x.2 i, k.1 with
      | some ⟨.lst ds, .own⟩, .int k => if ds.length < sizeLine ∧ 0 ≤ k ∧ k < 2 ^ 63 then some (.val .non, x.2.set i (some ⟨.lst (ds.take k.toNat ++ [x.1] ++ ds.drop k.toNat), .own⟩)) else none
      | some ⟨.lst ds, .io⟩, .int k => if ds.length < sizeLine ∧ 0 ≤ k ∧ k < 2 ^ 63 then some (.val .non, x.2.set i (some ⟨.lst (ds.take k.toNat ++ [x.1] ++ ds.drop k.toNat), .io⟩)) else none
      | _, _ => none) else none := by rw [Dl.run]; rfl
theorem run_ext (i : Nat) (a : E) : Dl.run W (.ext i a) r = (look r i).bind fun s => if isLst s.d = true then (Dl.run W a r).bind fun p => (match look p.2 i, p.1 with
      | some ⟨.lst ds, .own⟩, .fresh (.lst es) => if ds.length + es.length ≤ sizeLine then some (.val .non, p.2.set i (some ⟨.lst (ds ++ es), .own⟩)) else none
      | some ⟨.lst ds, .io⟩, .fresh (.lst es) => if ds.length + es.length ≤ sizeLine then some (.val .non, p.2.set i (some ⟨.lst (ds ++ es), .io⟩)) else none
      | _, _ => none) else none := by rw [Dl.run]; rfl
theorem run_call0 (f : Str) : Dl.run W (.call0 f) r = (W.io f).bind fun io => if io = none then (W.phi f []).bind fun z => some (z.1, r) else none := by rw [Dl.run]; rfl
theorem run_step (a : E) (lo : Oe) (st : E) : Dl.run W (.step a lo st) r = (Dl.run W a r).bind fun p => (runO W lo p.2).bind fun l => (Dl.run W st l.2).bind fun q => (res q.2 p.1).bind fun d => (match res q.2 q.1 with | some (.int k) => (semStep d l.1 k).bind fun o => some (o, q.2) | _ => none) := by rw [Dl.run]; rfl
theorem run_bor (e : E) : Dl.run W (.bor e) r = (Dl.run W e (fzAll r)).bind fun p => (match p.1 with
    | .fresh (.lst xs) => if xs.all flatD = true then some (.fresh (.lst xs), r) else none
    | .val d => if flatD d = true then some (.val d, r) else none
    | _ => none) := by rw [Dl.run]; rfl
@[simp] theorem runL_nil : runL W .nil r = some ([], r) := by rw [runL]
@[simp] theorem runL_cons (e : E) (es : Es) : runL W (.cons e es) r = (Dl.run W e r).bind fun p => (frz p.2 p.1).bind fun d => (runL W es d.2).bind fun q => some (d.1 :: q.1, q.2) := by rw [runL]; rfl
@[simp] theorem runA_nil (k : Option Nat) : runA W .nil k r = some ([], r) := by rw [runA]
@[simp] theorem runA_io (e : E) (es : Es) : runA W (.cons e es) (some 0) r = (Dl.run W e r).bind fun p => (lend p.2 p.1).bind fun o => (runA W es none p.2).bind fun q => some (o :: q.1, q.2) := by rw [runA]; rfl
@[simp] theorem runA_none (e : E) (es : Es) : runA W (.cons e es) none r = (Dl.run W e r).bind fun p => (frz p.2 p.1).bind fun d => (runA W es none d.2).bind fun q => some (.val d.1 :: q.1, q.2) := by rw [runA]; rfl
@[simp] theorem runA_succ (e : E) (es : Es) (k : Nat) : runA W (.cons e es) (some (k + 1)) r = (Dl.run W e r).bind fun p => (frz p.2 p.1).bind fun d => (runA W es (some k) d.2).bind fun q => some (.val d.1 :: q.1, q.2) := by rw [runA]; rfl
@[simp] theorem runO_no : runO W .no r = some (none, r) := by rw [runO]
@[simp] theorem runO_yes (e : E) : runO W (.yes e) r = (Dl.run W e r).bind fun p => (match res p.2 p.1 with | some (.int i) => some (some i, p.2) | _ => none) := by rw [runO]; rfl
@[simp] theorem runOt_no : runOt W .no r = some (true, r) := by rw [runOt]
@[simp] theorem runOt_yes (t : T) : runOt W (.yes t) r = runT W t r := by rw [runOt]
@[simp] theorem runT_val (e : E) : runT W (.val e) r = (Dl.run W e r).bind fun p => (res p.2 p.1).bind fun d => (truthD d).bind fun t => some (t, p.2) := by rw [runT]; rfl
@[simp] theorem runT_cmp (k : K2) (a b : E) : runT W (.cmp k a b) r = (Dl.run W a r).bind fun p => (Dl.run W b p.2).bind fun q => (res q.2 p.1).bind fun d => (res q.2 q.1).bind fun e => (match sem2 k d e with | some (.val (.bl t)) => some (t, q.2) | _ => none) := by rw [runT]; rfl
@[simp] theorem runT_not (t : T) : runT W (.not t) r = (runT W t r).bind fun p => some (!p.1, p.2) := by rw [runT]; rfl
@[simp] theorem runT_and (a b : T) : runT W (.and a b) r = (runT W a r).bind fun p => if p.1 = true then runT W b p.2 else some (false, p.2) := by rw [runT]; rfl
@[simp] theorem runT_or (a b : T) : runT W (.or a b) r = (runT W a r).bind fun p => if p.1 = true then some (true, p.2) else runT W b p.2 := by rw [runT]; rfl
@[simp] theorem runI_seq (e : E) : runI W (.seq e) r = (Dl.run W e r).bind fun p => (frz p.2 p.1).bind fun d => (items d.1).bind fun ds => some (ds, d.2) := by rw [runI]; rfl
theorem runI_rng1 (a : E) : runI W (.rng1 a) r = (Dl.run W a r).bind fun p => (match res p.2 p.1 with | some (.int n) => if -(2 ^ 62) ≤ n ∧ n.toNat ≤ sizeLine then some (rangeD 0 n.toNat, p.2) else none | _ => none) := by rw [runI]; rfl
theorem runI_rng2 (a b : E) : runI W (.rng2 a b) r = (Dl.run W a r).bind fun p => (Dl.run W b p.2).bind fun q => (match res q.2 p.1, res q.2 q.1 with | some (.int i), some (.int j) => if -(2 ^ 62) ≤ i ∧ i < 2 ^ 62 ∧ -(2 ^ 62) ≤ j ∧ j < 2 ^ 62 ∧ (j - i).toNat ≤ sizeLine then some (rangeD i (j - i).toNat, q.2) else none | _, _ => none) := by rw [runI]; rfl
@[simp] theorem runI_zip (es : Es) : runI W (.zip es) r = (runL W es r).bind fun p => (match p.1 with | [d, e] => (items d).bind fun xs => (items e).bind fun ys => some (zipD xs ys, p.2) | _ => none) := by rw [runI]; rfl
@[simp] theorem runI_enm (es : Es) : runI W (.enm es) r = (runL W es r).bind fun p => (match p.1 with | [d] => (items d).bind fun xs => some (enumD 0 xs, p.2) | _ => none) := by rw [runI]; rfl
/-- one turn of a for -/
def stepF (W : Wd) (n : Nat) (tg : Tg) (body : Ss) (d : Dat) (r : Rho) : Option Fl := (bindT r tg d).bind fun r => runB W n body r
@[simp] theorem runS_expr (e : E) : runS W n (.expr e) r = (Dl.run W e r).bind fun p => some (.next p.2) := by rw [runS]; rfl
@[simp] theorem runS_set (i : Nat) (e : E) : runS W n (.set i e) r = (Dl.run W e r).bind fun p => (store p.2 i p.1).bind fun r => some (.next r) := by rw [runS]; rfl
@[simp] theorem runS_unp (is : List Nat) (e : E) : runS W n (.unp is e) r = (Dl.run W e r).bind fun p => (frz p.2 p.1).bind fun d => (match d.1 with | .tup ds => (putAll d.2 is ds).bind fun r => some (.next r) | .lst ds => (putAll d.2 is ds).bind fun r => some (.next r) | _ => none) := by rw [runS]; rfl
theorem runS_setAt (i : Nat) (ix e : E) : runS W n (.setAt i ix e) r = (Dl.run W e r).bind fun p => (frz p.2 p.1).bind fun x => (look x.2 i).bind fun _ => (Dl.run W ix x.2).bind fun q => (match look q.2 i, res q.2 q.1 with
    | some ⟨.lst ds, .own⟩, some (.int k) => (ixN ds.length k).bind fun j => some (.next (q.2.set i (some ⟨.lst (ds.set j x.1), .own⟩)))
    | some ⟨.lst ds, .io⟩, some (.int k) => (ixN ds.length k).bind fun j => some (.next (q.2.set i (some ⟨.lst (ds.set j x.1), .io⟩)))
    | some ⟨.dct ks vs, .own⟩, some k => if okey ks k = true ∧ ks.length < sizeLine then some (.next (q.2.set i (some ⟨putD k x.1 ks vs, .own⟩))) else none
    | some ⟨.dct ks vs, .io⟩, some k => if okey ks k = true ∧ ks.length < sizeLine then some (.next (q.2.set i (some ⟨putD k x.1 ks vs, .io⟩))) else none
    | _, _ => none) := by rw [runS]; rfl
theorem runS_aug (i : Nat) (k : K2) (e : E) : runS W n (.aug i k e) r = (look r i).bind fun _ => (Dl.run W e r).bind fun p => (match look p.2 i, res p.2 p.1 with
    | some ⟨.int x, .fz⟩, some (.int y) => (match k with
      | .add => some (.next (p.2.set i (some ⟨.int (x + y), .fz⟩)))
      | .sub => some (.next (p.2.set i (some ⟨.int (x - y), .fz⟩)))
      | _ => none)
    | some ⟨.str x, .fz⟩, some (.str y) => (match k with
      | .add => if x.length + y.length ≤ sizeLine then some (.next (p.2.set i (some ⟨.str (x ++ y), .fz⟩))) else none
      | _ => none)
    | _, _ => none) := by rw [runS]; rfl
@[simp] theorem runS_ife (t : T) (a b : Ss) : runS W n (.ife t a b) r = (runT W t r).bind fun p => if p.1 = true then runB W n a p.2 else runB W n b p.2 := by rw [runS]; rfl
theorem runS_for (tg : Tg) (src : Src) (body : Ss) (wp : List Nat) : runS W n (.for_ tg src body wp) r = (runI W src r).bind fun p => forD (stepF W n tg body) wp p.1 (wipeR p.2 wp) := by rw [runS]; rfl
theorem runS_whl (t : T) (body : Ss) (wp : List Nat) : runS W n (.whl t body wp) r = whlD (runT W t) (runB W n body) wp n (wipeR r wp) := by rw [runS]
@[simp] theorem runS_ret (e : E) : runS W n (.ret e) r = (Dl.run W e r).bind fun p => some (.ret p.1 p.2) := by rw [runS]; rfl
@[simp] theorem runS_retN : runS W n .retN r = some (.ret (.val .non) r) := by rw [runS]
@[simp] theorem runS_pass : runS W n .pass r = some (.next r) := by rw [runS]
@[simp] theorem runS_brk : runS W n .brk r = some (.brk r) := by rw [runS]
@[simp] theorem runS_cont : runS W n .cont r = some (.cont r) := by rw [runS]
@[simp] theorem runB_nil : runB W n .nil r = some (.next r) := by rw [runB]
/-- a statement, and what follows it -/
def thenB (x : Option Fl) (k : Rho → Option Fl) : Option Fl := match x with
  | some (.next r) => k r
  | x => x
@[simp] theorem thenB_next (k : Rho → Option Fl) : thenB (some (.next r)) k = k r := rfl
@[simp] theorem thenB_ret (o : Out) (k : Rho → Option Fl) : thenB (some (.ret o r)) k = some (.ret o r) := rfl
@[simp] theorem thenB_brk (k : Rho → Option Fl) : thenB (some (.brk r)) k = some (.brk r) := rfl
@[simp] theorem thenB_cont (k : Rho → Option Fl) : thenB (some (.cont r)) k = some (.cont r) := rfl
@[simp] theorem runB_cons (s : S) (ss : Ss) : runB W n (.cons s ss) r = thenB (runS W n s r) (runB W n ss) := by
  rw [runB]
  cases runS W n s r with
  | none => rfl
  | some f => cases f <;> rfl
theorem runB_next {s : S} {ss : Ss} {r' : Rho} (h : runS W n s r = some (.next r')) : runB W n (.cons s ss) r = runB W n ss r' := by rw [runB_cons, h]; rfl
theorem runB_ret {s : S} {ss : Ss} {o : Out} {r' : Rho} (h : runS W n s r = some (.ret o r')) : runB W n (.cons s ss) r = some (.ret o r') := by rw [runB_cons, h]; rfl
end

theorem runD_val {W : Wd} {n : Nat} {D : Df} {ds : List Dat} {x d : Dat} {r : Rho} (hl : ds.length = D.ps) (h : runB W n D.body (startR D ds) = some (.ret (.val x) r)) (hd : leftR D r = some d) (hfn : D.fin = none := by rfl) : runD W n D ds = some (.val x, d) := by
  unfold runD bodyM
  rw [if_pos hl, hfn]
  dsimp only
  rw [h]
  dsimp only
  rw [hd]
  rfl
theorem runD_fresh {W : Wd} {n : Nat} {D : Df} {ds : List Dat} {x d : Dat} {r : Rho} (hl : ds.length = D.ps) (h : runB W n D.body (startR D ds) = some (.ret (.fresh x) r)) (hd : leftR D r = some d) (hfn : D.fin = none := by rfl) : runD W n D ds = some (.fresh x, d) := by
  unfold runD bodyM
  rw [if_pos hl, hfn]
  dsimp only
  rw [h]
  dsimp only
  rw [hd]
  rfl
theorem runD_at {W : Wd} {n : Nat} {D : Df} {ds : List Dat} {x d : Dat} {r : Rho} {j : Nat} (hl : ds.length = D.ps) (h : runB W n D.body (startR D ds) = some (.ret (.place j) r)) (hx : look r j = some ⟨x, .fz⟩) (hd : leftR D r = some d) (hfn : D.fin = none := by rfl) : runD W n D ds = some (.val x, d) := by
  unfold runD bodyM
  rw [if_pos hl, hfn]
  dsimp only
  rw [h]
  dsimp only
  rw [hx]
  dsimp only
  rw [hd]
  rfl
theorem runD_own {W : Wd} {n : Nat} {D : Df} {ds : List Dat} {x d : Dat} {r : Rho} {j : Nat} (hl : ds.length = D.ps) (h : runB W n D.body (startR D ds) = some (.ret (.place j) r)) (hx : look r j = some ⟨x, .own⟩) (hd : leftR D r = some d) (hfn : D.fin = none := by rfl) : runD W n D ds = some (.fresh x, d) := by
  unfold runD bodyM
  rw [if_pos hl, hfn]
  dsimp only
  rw [h]
  dsimp only
  rw [hx]
  dsimp only
  rw [hd]
  rfl
theorem erase_map {α β : Type} (f : α → β) : ∀ (l : List α) (i : Nat), (l.map f).eraseIdx i = (l.eraseIdx i).map f
  | [], _ => rfl
  | _ :: _, 0 => rfl
  | x :: l, i + 1 => congrArg (f x :: ·) (erase_map f l i)
theorem drop_map {α β : Type} (f : α → β) (l : List α) (i : Nat) : (l.map f).drop i = (l.drop i).map f := by simp
/-! ### loops -/
section
variable {f : Dat → Rho → Option Fl} {wp : List Nat}
/-- a for whose turns all go on: an invariant of the state -/
theorem forD_inv (I : List Dat → Rho → Prop) : ∀ (ds pre : List Dat) (r : Rho), I pre r → (∀ pre d post r, pre ++ d :: post = pre ++ d :: post → d ∈ ds → I pre r → ∃ r', f d r = some (.next r') ∧ I (pre ++ [d]) (wipeR r' wp)) → ∃ r', forD f wp ds r = some (.next r') ∧ I (pre ++ ds) r'
  | [], pre, r, h, _ => ⟨r, rfl, by rw [List.append_nil]; exact h⟩
  | d :: ds, pre, r, h, hs => by
    obtain ⟨r1, h1, h2⟩ := hs pre d ds r rfl List.mem_cons_self h
    obtain ⟨r2, h3, h4⟩ := forD_inv I ds (pre ++ [d]) _ h2 fun pre e post r _ he hi => hs pre e post r rfl (List.mem_cons_of_mem _ he) hi
    refine ⟨r2, ?_, by rw [← List.append_cons] at h4; exact h4⟩
    rw [forD, h1]
    exact h3
/-- .. the state a function of what was taken -/
theorem forD_fold {α : Type} (st : α → Rho) (g : α → Dat → α) (P : α → Prop) : ∀ (ds : List Dat) (a : α), P a → (∀ a d, d ∈ ds → P a → P (g a d) ∧ ∃ r', f d (st a) = some (.next r') ∧ wipeR r' wp = st (g a d)) → forD f wp ds (st a) = some (.next (st (ds.foldl g a))) ∧ P (ds.foldl g a)
  | [], a, h, _ => ⟨rfl, h⟩
  | d :: ds, a, h, hs => by
    obtain ⟨h1, r', h2, h3⟩ := hs a d List.mem_cons_self h
    have ih := forD_fold st g P ds (g a d) h1 fun a e he hp => hs a e (List.mem_cons_of_mem _ he) hp
    rw [forD, h2]
    dsimp only
    rw [h3]
    exact ih
end
section
variable {f : Dat → Rho → Option Fl} {wp : List Nat}
/-- a for whose turns all go on: by the number of the turn -/
theorem forD_ix (I : Nat → Rho → Prop) : ∀ (ds : List Dat) (k : Nat) (r : Rho), I k r → (∀ i d r, ds[i]? = some d → I (k + i) r → ∃ r', f d r = some (.next r') ∧ I (k + i + 1) (wipeR r' wp)) → ∃ r', forD f wp ds r = some (.next r') ∧ I (k + ds.length) r'
  | [], k, r, h, _ => ⟨r, rfl, h⟩
  | d :: ds, k, r, h, hs => by
    obtain ⟨r1, h1, h2⟩ := hs 0 d r rfl h
    obtain ⟨r2, h3, h4⟩ := forD_ix I ds (k + 1) _ h2 fun i e r he hi => by
      have e1 : k + 1 + i = k + (i + 1) := by omega
      rw [e1] at hi ⊢
      exact hs (i + 1) e r he hi
    refine ⟨r2, ?_, by rw [List.length_cons]; have e1 : k + (ds.length + 1) = k + 1 + ds.length := by omega
                       rw [e1]; exact h4⟩
    rw [forD, h1]
    exact h3
/-- a for that appends: F tells what a turn adds -/
theorem forD_app (st : List Dat → Rho) (F : Dat → Option Dat) (ds : List Dat) (hs : ∀ (i : Nat) (d : Dat) (acc : List Dat), ds[i]? = some d → acc.length ≤ i → ∃ r', f d (st acc) = some (.next r') ∧ wipeR r' wp = st (acc ++ (F d).toList)) : forD f wp ds (st []) = some (.next (st (ds.filterMap F))) := by
  obtain ⟨r', h1, h2⟩ := forD_ix (f := f) (wp := wp) (fun i r => r = st ((ds.take i).filterMap F) ∧ ((ds.take i).filterMap F).length ≤ i) ds 0 (st []) ⟨rfl, Nat.le_refl _⟩ (by
    rintro i d r hd ⟨rfl, hl⟩
    rw [Nat.zero_add] at hl ⊢
    obtain ⟨r', h1, h2⟩ := hs i d _ hd hl
    have e : (ds.take (i + 1)).filterMap F = (ds.take i).filterMap F ++ (F d).toList := by
      rw [List.take_add_one, hd, List.filterMap_append]
      congr 1
    refine ⟨r', h1, ?_, ?_⟩
    · rw [h2, e]
    · rw [e, List.length_append]
      have : (F d).toList.length ≤ 1 := by cases F d <;> simp
      omega)
  rw [h1, h2.1, Nat.zero_add, List.take_length]
end
section
variable {f : Dat → Rho → Option (Option Dat × Rho)}
/-- a comprehension without a test: each item gives one with P; I by the turn -/
theorem compD_inv (N : Nat) (I : Nat → Rho → Prop) (P : Dat → Prop) : ∀ (ds : List Dat) (i : Nat) (r : Rho), i + ds.length = N → I i r → (∀ i d r, i < N → d ∈ ds → I i r → ∃ x r', f d r = some (some x, r') ∧ P x ∧ I (i + 1) r') → ∃ xs r', compD f ds r = some (xs, r') ∧ xs.length = ds.length ∧ (∀ x ∈ xs, P x) ∧ I N r'
  | [], i, r, hN, h, _ => ⟨[], r, rfl, rfl, fun _ q => (nomatch q), by rw [← hN]; exact h⟩
  | d :: ds, i, r, hN, h, hs => by
    rw [List.length_cons] at hN
    obtain ⟨x, r1, h1, h2, h3⟩ := hs i d r (by omega) List.mem_cons_self h
    obtain ⟨xs, r2, h4, h5, h6, h7⟩ := compD_inv N I P ds (i + 1) r1 (by omega) h3 fun i d r hi hd hI => hs i d r hi (List.mem_cons_of_mem _ hd) hI
    refine ⟨x :: xs, r2, ?_, by rw [List.length_cons, List.length_cons, h5], fun y hy => ?_, h7⟩
    · rw [compD, h1]
      show (compD f ds r1).bind _ = _
      rw [h4]
      rfl
    · rcases List.mem_cons.mp hy with rfl | hy
      · exact h2
      · exact h6 y hy
/-- .. with a test: an item is given or left out -/
theorem compD_filter (I : Rho → Prop) (P : Dat → Prop) : ∀ (ds : List Dat) (r : Rho), I r → (∀ d r, d ∈ ds → I r → ∃ x r', f d r = some (x, r') ∧ (∀ y, x = some y → P y) ∧ I r') → ∃ xs r', compD f ds r = some (xs, r') ∧ xs.length ≤ ds.length ∧ (∀ x ∈ xs, P x) ∧ I r'
  | [], r, h, _ => ⟨[], r, rfl, Nat.le_refl _, fun _ q => (nomatch q), h⟩
  | d :: ds, r, h, hs => by
    obtain ⟨x, r1, h1, h2, h3⟩ := hs d r List.mem_cons_self h
    obtain ⟨xs, r2, h4, h5, h6, h7⟩ := compD_filter I P ds r1 h3 fun d r hd hi => hs d r (List.mem_cons_of_mem _ hd) hi
    cases x with
    | none =>
      refine ⟨xs, r2, ?_, Nat.le_succ_of_le h5, h6, h7⟩
      rw [compD, h1]
      show (compD f ds r1).bind _ = _
      rw [h4]
      rfl
    | some y =>
      refine ⟨y :: xs, r2, ?_, by rw [List.length_cons, List.length_cons]; omega, fun z hz => ?_, h7⟩
      · rw [compD, h1]
        show (compD f ds r1).bind _ = _
        rw [h4]
        rfl
      · rcases List.mem_cons.mp hz with rfl | hz
        · exact h2 _ rfl
        · exact h6 z hz
/-- .. reckoned -/
theorem compD_map (st : Rho) (g : Dat → Dat) : ∀ (ds : List Dat), (∀ d, d ∈ ds → f d st = some (some (g d), st)) → compD f ds st = some (ds.map g, st)
  | [], _ => rfl
  | d :: ds, hs => by
    rw [compD, hs d List.mem_cons_self]
    show (compD f ds st).bind _ = _
    rw [compD_map st g ds fun e he => hs e (List.mem_cons_of_mem _ he)]
    rfl
end
theorem rangeD_mem {lo : Int} {n : Nat} {d : Dat} (h : d ∈ rangeD lo n) : ∃ k : Nat, k < n ∧ d = .int (lo + k) := by
  unfold rangeD at h
  obtain ⟨k, hk, rfl⟩ := List.mem_map.mp h
  exact ⟨k, List.mem_range.mp hk, rfl⟩
theorem rangeD_len (lo : Int) (n : Nat) : (rangeD lo n).length = n := by
  unfold rangeD
  rw [List.length_map, List.length_range]
/-- the place of a sign in a text -/
theorem index_one {x : Str} {c : Nat} (h : c ∈ x.cps.toList) : ∃ k : Nat, Txt.index0 x ⟨#[c]⟩ = some k ∧ k < x.length := by
  have h1 := StrLaws.found_one x c
  rw [decide_eq_true h] at h1
  unfold Txt.index0
  cases ho : Builtin.Str.occurrences x ⟨#[c]⟩ 0 x.length 1 with
  | nil => rw [ho] at h1; cases h1
  | cons k rest =>
    refine ⟨k, rfl, ?_⟩
    have := (StrLaws.occ_spec x ⟨#[c]⟩ 0 x.length 1 k (by rw [ho]; exact List.mem_cons_self)).1
    have e : (⟨#[c]⟩ : Str).length = 1 := rfl
    omega
/-! ### texts by their signs -/
/-- the text of one sign -/
def sg (c : Nat) : Str := ⟨#[c]⟩
theorem signs_eq (x : Str) : signs x = x.cps.toList.map sg := rfl
theorem joinL_nil : ∀ ps : List (List Nat), TL.joinL [] ps = ps.flatten
  | [] => rfl
  | [p] => by simp [TL.joinL]
  | p :: q :: r => by
    show p ++ ([] ++ TL.joinL [] (q :: r)) = _
    rw [List.nil_append, joinL_nil (q :: r)]
    rfl
theorem join_signs (cs : List Nat) : Txt.join ⟨#[]⟩ (cs.map sg) = ⟨cs.toArray⟩ := by
  apply TL.ext_tl
  rw [TL.join_eq, TL.tl_join]
  show TL.joinL [] _ = cs
  rw [joinL_nil, List.map_map]
  induction cs with
  | nil => rfl
  | cons c cs ih =>
    rw [List.map_cons, List.flatten_cons, ih]
    rfl
theorem sum_ones (cs : List Nat) : ((cs.map sg).map (·.length)).sum = cs.length := by
  induction cs with
  | nil => rfl
  | cons c cs ih =>
    rw [List.map_cons, List.map_cons, List.sum_cons, ih, List.length_cons]
    show 1 + _ = _
    omega
/-- joining signs -/
theorem semJoin_signs (cs : List Nat) (h : cs.length ≤ 1000) : semJoin (.str "") (.lst ((cs.map sg).map .str)) = some (.val (.str ⟨cs.toArray⟩)) := by
  have e : ("" : Str) = ⟨#[]⟩ := rfl
  unfold semJoin
  dsimp only
  rw [strsOf_map]
  dsimp only
  rw [sum_ones, e, join_signs, if_pos]
  show cs.length + _ * 0 ≤ sizeLine
  rw [Nat.mul_zero, Nat.add_zero]
  exact small_line h
theorem ltS_sg (a b : Nat) : ltS (sg a) (sg b) = decide (a < b) := by
  show ltCps [a] [b] = _
  simp [ltCps]
/-- sorting signs -/
def insN (x : Nat) : List Nat → List Nat
  | [] => [x]
  | y :: r => if y < x then y :: insN x r else x :: y :: r
def sortN : List Nat → List Nat
  | [] => []
  | x :: r => insN x (sortN r)
theorem insS_sg (x : Nat) : ∀ l : List Nat, insS (sg x) (l.map sg) = (insN x l).map sg
  | [] => rfl
  | y :: r => by
    rw [List.map_cons]
    unfold insS insN
    rw [ltS_sg]
    by_cases h : y < x
    · rw [if_pos h, if_pos (decide_eq_true h), insS_sg x r]
      rfl
    · rw [if_neg h, if_neg (by simpa using h)]
      rfl
theorem sortS_sg : ∀ l : List Nat, sortS (l.map sg) = (sortN l).map sg
  | [] => rfl
  | x :: r => by
    rw [List.map_cons]
    unfold sortS sortN
    rw [sortS_sg r, insS_sg]
theorem insN_perm (x : Nat) : ∀ l : List Nat, (insN x l).Perm (x :: l)
  | [] => List.Perm.refl _
  | y :: r => by
    unfold insN
    split
    · exact ((insN_perm x r).cons y).trans (List.Perm.swap x y r)
    · exact List.Perm.refl _
theorem sortN_perm : ∀ l : List Nat, (sortN l).Perm l
  | [] => List.Perm.refl _
  | x :: r => (insN_perm x (sortN r)).trans ((sortN_perm r).cons x)
theorem semSorted_sg (cs : List Nat) : semSorted (.lst ((cs.map sg).map .str)) = some (.fresh (.lst (((sortN cs).map sg).map .str))) := by
  unfold semSorted
  dsimp only
  rw [strsOf_map]
  dsimp only
  rw [sortS_sg]
theorem semAt_str {cs : List Nat} {i : Int} (h0 : 0 ≤ i) (h1 : i < cs.length) : ∃ c, c ∈ cs ∧ semAt (.str ⟨cs.toArray⟩) (.int i) = some (.val (.str (sg c))) := by
  have hi : i.toNat < cs.length := by omega
  refine ⟨cs[i.toNat], List.getElem_mem hi, ?_⟩
  show (atI cs i).map _ = _
  have e : ((i.toNat : Nat) : Int) = i := by omega
  have := atI_nat (xs := cs) (j := i.toNat) (List.getElem?_eq_getElem hi)
  rw [e] at this
  rw [this]
  rfl
theorem atI_of {α : Type} {xs : List α} {i : Int} (h0 : 0 ≤ i) (h1 : i < xs.length) : ∃ (hi : i.toNat < xs.length), atI xs i = some xs[i.toNat] := by
  have hi : i.toNat < xs.length := by omega
  refine ⟨hi, ?_⟩
  have e : ((i.toNat : Nat) : Int) = i := by omega
  have := atI_nat (xs := xs) (j := i.toNat) (List.getElem?_eq_getElem hi)
  rw [e] at this
  exact this
theorem ixN_of {n : Nat} {i : Int} (h0 : 0 ≤ i) (h1 : i < n) : ixN n i = some i.toNat := by
  unfold ixN
  rw [if_pos h0, if_pos h1]
theorem all_of {α β : Type} {P : α → Prop} {f : β → α} {xs : List α} (h : ∀ x ∈ xs, ∃ y, x = f y ∧ P x) : ∃ ys : List β, xs = ys.map f ∧ ∀ y ∈ ys, P (f y) := by
  induction xs with
  | nil => exact ⟨[], rfl, fun _ q => (nomatch q)⟩
  | cons x xs ih =>
    obtain ⟨y, rfl, hp⟩ := h x List.mem_cons_self
    obtain ⟨ys, rfl, hy⟩ := ih fun z hz => h z (List.mem_cons_of_mem _ hz)
    refine ⟨y :: ys, rfl, fun z hz => ?_⟩
    rcases List.mem_cons.mp hz with rfl | hz
    · exact hp
    · exact hy z hz
/-! ### arithmetic, where it is known -/
theorem mul_eq {i j : Int} (h : -18446744073709551616 < i ∧ i < 18446744073709551616) : semMul (.int i) (.int j) = some (.val (.int (i * j))) := if_pos (.inl h)
theorem mul_eq' {i j : Int} (h : -18446744073709551616 < j ∧ j < 18446744073709551616) : semMul (.int i) (.int j) = some (.val (.int (i * j))) := if_pos (.inr h)
theorem div_eq {i j : Int} (h : 0 < j) (h2 : j < 1073741824) : semDiv (.int i) (.int j) = some (.val (.int (i / j))) := if_pos ⟨h, h2⟩
theorem mod_eq {i j : Int} (h : 0 < j) : semMod (.int i) (.int j) = some (.val (.int (i % j))) := if_pos h
/-! ### dicts -/
@[simp] theorem eqK_int (i j : Int) : eqK (.int i) (.int j) = decide (i = j) := by simp [eqK, nkey]
@[simp] theorem eqK_str (x y : Str) : eqK (.str x) (.str y) = decide (x = y) := by simp [eqK, nkey]
theorem okey_strs (xs : List Str) (x : Str) : okey (xs.map .str) (.str x) = true := by
  unfold okey
  rw [strs_flatK]
  rfl
theorem ints_flatK : ∀ ys : List Int, (ys.map Dat.int).all flatK = true
  | [] => rfl
  | y :: ys => by rw [List.map_cons, List.all_cons, ints_flatK ys]; rfl
theorem okey_ints (xs : List Int) (x : Int) : okey (xs.map .int) (.int x) = true := by
  unfold okey
  rw [ints_flatK]
  rfl
theorem hasK_strs (x : Str) : ∀ xs : List Str, hasK (.str x) (xs.map .str) = decide (x ∈ xs)
  | [] => rfl
  | y :: ys => by
    have ih := hasK_strs x ys
    unfold hasK at ih ⊢
    rw [List.map_cons, List.any_cons, ih, eqK_str]
    by_cases h : y = x
    · subst h; simp
    · simp [h, Ne.symm h]
theorem hasK_ints (x : Int) : ∀ xs : List Int, hasK (.int x) (xs.map .int) = decide (x ∈ xs)
  | [] => rfl
  | y :: ys => by
    have ih := hasK_ints x ys
    unfold hasK at ih ⊢
    rw [List.map_cons, List.any_cons, ih, eqK_int]
    by_cases h : y = x
    · subst h; simp
    · simp [h, Ne.symm h]
theorem getV_at {k : Dat} : ∀ {ks vs : List Dat} {i : Nat} {v : Dat}, ks[i]? = some k → vs[i]? = some v → (∀ j x, j < i → ks[j]? = some x → eqK x k = false) → eqK k k = true → getV k ks vs = some v
  | [], vs, i, v, h, _, _, _ => by simp at h
  | x :: ks, [], i, v, _, h, _, _ => by simp at h
  | x :: ks, y :: vs, 0, v, h, h2, _, he => by
    cases h
    cases h2
    unfold getV
    rw [if_pos he]
  | x :: ks, y :: vs, i + 1, v, h, h2, hn, he => by
    unfold getV
    rw [if_neg (by rw [hn 0 x (Nat.succ_pos _) rfl]; exact Bool.false_ne_true)]
    exact getV_at (i := i) h h2 (fun j z hj hz => hn (j + 1) z (Nat.succ_lt_succ hj) hz) he
/-! ### == of lists of texts -/
def okS (x : Str) : Bool := PyData.strOk x
theorem canAll_strs : ∀ {xs : List Str}, (∀ x ∈ xs, PyData.strOk x = true) → PyData.canLayAll0 (toPys (xs.map .str)) = true
  | [], _ => rfl
  | x :: xs, h => by
    show (PyData.strOk x && PyData.canLayAll0 (toPys (xs.map .str))) = true
    rw [h x List.mem_cons_self, canAll_strs fun y hy => h y (List.mem_cons_of_mem _ hy)]
    rfl
theorem depth_strs : ∀ (xs : List Str), PyData.depthAll (toPys (xs.map .str)) = 0
  | [] => rfl
  | x :: xs => by
    show max 0 (PyData.depthAll (toPys (xs.map .str))) = 0
    rw [depth_strs xs]
    rfl
theorem shaped_strs {xs : List Str} (h : ∀ x ∈ xs, PyData.strOk x = true) : SeqAt.shaped (toPy (.lst (xs.map .str))) = true := by
  unfold SeqAt.shaped
  rw [Bool.and_eq_true]
  refine ⟨canAll_strs h, decide_eq_true ?_⟩
  show PyData.depthAll (toPys (xs.map .str)) + 1 ≤ 64
  rw [depth_strs]
  decide
theorem eqvAll_strs : ∀ (xs ys : List Str), PyData.eqvAll (toPys (xs.map .str)) (toPys (ys.map .str)) = decide (xs = ys)
  | [], [] => rfl
  | [], y :: ys => by simp [toPys, PyData.eqvAll]
  | x :: xs, [] => by simp [toPys, PyData.eqvAll]
  | x :: xs, y :: ys => by
    show (PyData.eqv (.str x) (.str y) && PyData.eqvAll (toPys (xs.map .str)) (toPys (ys.map .str))) = _
    rw [eqvAll_strs xs ys]
    show ((x == y) && _) = _
    by_cases h1 : x = y
    · by_cases h2 : xs = ys
      · simp [h1, h2]
      · simp [h1, h2]
    · simp [h1]
theorem eqD_strs {xs ys : List Str} (h1 : ∀ x ∈ xs, PyData.strOk x = true) (h2 : ∀ x ∈ ys, PyData.strOk x = true) : eqD (.lst (xs.map .str)) (.lst (ys.map .str)) = some (decide (xs = ys)) := by
  have e : eqD (.lst (xs.map .str)) (.lst (ys.map .str)) = if SeqAt.shaped (toPy (.lst (xs.map .str))) = true ∧ SeqAt.shaped (toPy (.lst (ys.map .str))) = true then some (PyData.eqv (toPy (.lst (xs.map .str))) (toPy (.lst (ys.map .str)))) else none := rfl
  rw [e, if_pos ⟨shaped_strs h1, shaped_strs h2⟩]
  exact congrArg some (eqvAll_strs xs ys)
end Dl

/-! M0: plain: things found in order (breadth first), the one machine of a language. -/
namespace Dm
open Dl (addK dd)
/-! ### pigeons -/
theorem nodup_le {α : Type} [DecidableEq α] : ∀ {l m : List α}, l.Nodup → (∀ a ∈ l, a ∈ m) → l.length ≤ m.length
  | [], m, _, _ => Nat.zero_le _
  | a :: l, m, nd, h => by
    obtain ⟨n1, n2⟩ := List.nodup_cons.mp nd
    have hm : a ∈ m := h a (List.mem_cons_self ..)
    have := nodup_le (l := l) (m := m.erase a) n2 fun b hb => (List.mem_erase_of_ne (fun z => n1 (by rw [← z]; exact hb))).mpr (h b (List.mem_cons_of_mem _ hb))
    rw [List.length_erase_of_mem hm] at this
    have hp : 0 < m.length := List.length_pos_of_mem hm
    simp only [List.length_cons]
    omega
theorem addK_nodup {α : Type} [DecidableEq α] {k : α} {ks : List α} (h : ks.Nodup) : (addK k ks).Nodup := by
  unfold addK
  split
  · exact h
  · rename_i hk
    refine List.nodup_append.mpr ⟨h, by simp, fun a ha b hb => ?_⟩
    rw [List.mem_singleton.mp hb]
    exact fun z => hk (by rw [← z]; exact ha)
theorem addK_mem' {α : Type} [DecidableEq α] {k x : α} {ks : List α} : x ∈ addK k ks ↔ x ∈ ks ∨ x = k := by
  unfold addK
  split
  · rename_i hk
    exact ⟨.inl, fun h => h.elim id fun z => by rw [z]; exact hk⟩
  · simp
theorem foldK_mem {α : Type} [DecidableEq α] {x : α} : ∀ (xs ks : List α), x ∈ xs.foldl (fun ks k => addK k ks) ks ↔ x ∈ ks ∨ x ∈ xs
  | [], ks => by simp
  | y :: xs, ks => by
    rw [List.foldl_cons, foldK_mem xs, addK_mem', List.mem_cons]
    constructor
    · rintro ((h | h) | h)
      · exact .inl h
      · exact .inr (.inl h)
      · exact .inr (.inr h)
    · rintro (h | h | h)
      · exact .inl (.inl h)
      · exact .inl (.inr h)
      · exact .inr h
theorem foldK_nodup {α : Type} [DecidableEq α] : ∀ (xs ks : List α), ks.Nodup → (xs.foldl (fun ks k => addK k ks) ks).Nodup
  | [], ks, h => h
  | y :: xs, ks, h => foldK_nodup xs _ (addK_nodup h)
theorem dd_mem {α : Type} [DecidableEq α] {x : α} (xs : List α) : x ∈ dd xs ↔ x ∈ xs := by
  unfold dd
  rw [foldK_mem]
  simp
theorem dd_nodup {α : Type} [DecidableEq α] (xs : List α) : (dd xs).Nodup := foldK_nodup xs [] List.nodup_nil
theorem dd_snoc {α : Type} [DecidableEq α] (xs : List α) (x : α) : dd (xs ++ [x]) = addK x (dd xs) := by
  unfold dd
  rw [List.foldl_append]
  rfl
theorem dd_len_le {α : Type} [DecidableEq α] (xs : List α) : (dd xs).length ≤ xs.length := nodup_le (dd_nodup xs) fun a h => (dd_mem xs).mp h
theorem foldK_le {α : Type} [DecidableEq α] : ∀ (xs ks : List α), (xs.foldl (fun ks k => addK k ks) ks).length ≤ ks.length + xs.length
  | [], ks => Nat.le_refl _
  | y :: xs, ks => by
    have h1 := foldK_le xs (addK y ks)
    have h2 : (addK y ks).length ≤ ks.length + 1 := Dl.addK_len y ks
    rw [List.foldl_cons, List.length_cons]
    omega
theorem foldK_full {α : Type} [DecidableEq α] : ∀ (xs ks : List α), (xs.foldl (fun ks k => addK k ks) ks).length = ks.length + xs.length → ks.Nodup → (ks ++ xs).Nodup
  | [], ks, _, h => by rw [List.append_nil]; exact h
  | y :: xs, ks, hl, h => by
    rw [List.foldl_cons, List.length_cons] at hl
    have h1 := foldK_le xs (addK y ks)
    by_cases hy : y ∈ ks
    · have e : addK y ks = ks := if_pos hy
      rw [e] at h1 hl
      omega
    · have e : addK y ks = ks ++ [y] := if_neg hy
      have nd : (ks ++ [y]).Nodup := by rw [← e]; exact addK_nodup h
      rw [e] at hl
      have := foldK_full xs (ks ++ [y]) (by rw [hl, List.length_append, List.length_singleton]; omega) nd
      rw [List.append_assoc] at this
      exact this
theorem dd_full {α : Type} [DecidableEq α] (m : List α) (h : (dd m).length = m.length) : m.Nodup := by
  have := foldK_full m [] (by rw [List.length_nil, Nat.zero_add]; exact h) List.nodup_nil
  exact this
theorem dd_prefix {α : Type} [DecidableEq α] : ∀ (xs ks : List α), ks <+: xs.foldl (fun ks k => addK k ks) ks
  | [], ks => List.prefix_rfl
  | y :: xs, ks => by
    refine List.IsPrefix.trans ?_ (dd_prefix xs (addK y ks))
    unfold addK
    split
    · exact List.prefix_rfl
    · exact List.prefix_append _ _
/-- finer lists have no fewer classes; and as many only if they are alike -/
theorem dd_finer {α β : Type} [DecidableEq α] [DecidableEq β] (n : Nat) (f : Nat → α) (g : Nat → β) (h : ∀ i j, i < n → j < n → f i = f j → g i = g j) :
    (dd ((List.range n).map g)).length ≤ (dd ((List.range n).map f)).length ∧ ((dd ((List.range n).map g)).length = (dd ((List.range n).map f)).length → ∀ i j, i < n → j < n → g i = g j → f i = f j) := by
  -- a place of each class of f
  have rep : ∀ (l : List α), (∀ a ∈ l, ∃ i, i < n ∧ f i = a) → ∃ r : List Nat, r.map f = l ∧ ∀ i ∈ r, i < n := by
    intro l
    induction l with
    | nil => exact fun _ => ⟨[], rfl, fun i hi => nomatch hi⟩
    | cons a l ih =>
      intro hl
      obtain ⟨i, hi, e⟩ := hl a (List.mem_cons_self ..)
      obtain ⟨r, e2, hr⟩ := ih fun b hb => hl b (List.mem_cons_of_mem _ hb)
      refine ⟨i :: r, by rw [List.map_cons, e, e2], fun j hj => ?_⟩
      rcases List.mem_cons.mp hj with rfl | hj
      · exact hi
      · exact hr j hj
  obtain ⟨r, e, hr⟩ := rep (dd ((List.range n).map f)) fun a ha => by
    obtain ⟨i, hi, e⟩ := List.mem_map.mp ((dd_mem _).mp ha)
    exact ⟨i, List.mem_range.mp hi, e⟩
  have hlen : r.length = (dd ((List.range n).map f)).length := by rw [← e, List.length_map]
  have nd : (r.map f).Nodup := by rw [e]; exact dd_nodup _
  have cov : ∀ i, i < n → ∃ j ∈ r, f j = f i := fun i hi => by
    have : f i ∈ r.map f := by rw [e, dd_mem]; exact List.mem_map.mpr ⟨i, List.mem_range.mpr hi, rfl⟩
    obtain ⟨j, hj, ej⟩ := List.mem_map.mp this
    exact ⟨j, hj, ej⟩
  have sub : ∀ b ∈ dd ((List.range n).map g), b ∈ dd (r.map g) := fun b hb => by
    obtain ⟨i, hi, ei⟩ := List.mem_map.mp ((dd_mem _).mp hb)
    obtain ⟨j, hj, ej⟩ := cov i (List.mem_range.mp hi)
    rw [dd_mem]
    exact List.mem_map.mpr ⟨j, hj, by rw [← ei]; exact h j i (hr j hj) (List.mem_range.mp hi) ej⟩
  have le1 := nodup_le (dd_nodup _) sub
  have le2 : (dd (r.map g)).length ≤ r.length := by have := dd_len_le (r.map g); rw [List.length_map] at this; exact this
  refine ⟨by omega, fun heq i j hi hj hg => ?_⟩
  have ndg : (r.map g).Nodup := dd_full _ (by rw [List.length_map]; omega)
  obtain ⟨i', hi', ei⟩ := cov i hi
  obtain ⟨j', hj', ej⟩ := cov j hj
  have gi : g i' = g i := h i' i (hr i' hi') hi ei
  have gj : g j' = g j := h j' j (hr j' hj') hj ej
  have gij : g i' = g j' := by rw [gi, gj, hg]
  have inj : ∀ (l : List Nat), (l.map g).Nodup → ∀ x ∈ l, ∀ y ∈ l, g x = g y → x = y := by
    intro l
    induction l with
    | nil => exact fun _ x hx => nomatch hx
    | cons z l ih =>
      intro hnd x hx y hy hxy
      rw [List.map_cons] at hnd
      obtain ⟨n1, n2⟩ := List.nodup_cons.mp hnd
      rcases List.mem_cons.mp hx with rfl | hx
      · rcases List.mem_cons.mp hy with rfl | hy
        · rfl
        · exact absurd (List.mem_map.mpr ⟨y, hy, hxy.symm⟩) n1
      · rcases List.mem_cons.mp hy with hz | hy
        · rw [hz] at hxy
          exact absurd (List.mem_map.mpr ⟨x, hx, hxy⟩) n1
        · exact ih n2 x hx y hy hxy
  have := inj r ndg i' hi' j' hj' gij
  rw [← ei, ← ej, this]

/-! ### found in order -/
section
variable {α κ : Type} [DecidableEq κ] (key : α → κ) (nx : α → List α)
def addN (o : List α) (x : α) : List α := if key x ∈ o.map key then o else o ++ [x]
def addAll (o xs : List α) : List α := xs.foldl (addN key) o
def bfs : Nat → Nat → List α → List α
  | 0, _, o => o
  | f + 1, i, o => match o[i]? with
    | none => o
    | some x => bfs f (i + 1) (addAll key o (nx x))
/-- the rows of the things found -/
def rowOf (o : List α) (x : α) : List Nat := (nx x).map fun y => (o.map key).idxOf (key y)
end
section
variable {α κ : Type} [DecidableEq κ] {key : α → κ} {nx : α → List α}
theorem addN_prefix (o : List α) (x : α) : o <+: addN key o x := by
  unfold addN
  split
  · exact List.prefix_rfl
  · exact List.prefix_append _ _
theorem addAll_prefix : ∀ (xs o : List α), o <+: addAll key o xs
  | [], o => List.prefix_rfl
  | x :: xs, o => (addN_prefix o x).trans (addAll_prefix xs (addN key o x))
theorem bfs_prefix : ∀ (f i : Nat) (o : List α), o <+: bfs key nx f i o
  | 0, _, o => List.prefix_rfl
  | f + 1, i, o => by
    unfold bfs
    split
    · exact List.prefix_rfl
    · exact (addAll_prefix _ o).trans (bfs_prefix f (i + 1) _)
theorem addN_keys {o : List α} (x : α) (h : (o.map key).Nodup) : ((addN key o x).map key).Nodup := by
  unfold addN
  split
  · exact h
  · rename_i hx
    rw [List.map_append]
    refine List.nodup_append.mpr ⟨h, by simp, fun a ha b hb => ?_⟩
    rw [List.map_singleton, List.mem_singleton] at hb
    rw [hb]
    exact fun z => hx (by rw [← z]; exact ha)
theorem addAll_keys : ∀ (xs o : List α), (o.map key).Nodup → ((addAll key o xs).map key).Nodup
  | [], o, h => h
  | x :: xs, o, h => addAll_keys xs _ (addN_keys x h)
theorem bfs_keys : ∀ (f i : Nat) (o : List α), (o.map key).Nodup → ((bfs key nx f i o).map key).Nodup
  | 0, _, o, h => h
  | f + 1, i, o, h => by
    unfold bfs
    split
    · exact h
    · exact bfs_keys f _ _ (addAll_keys _ _ h)
theorem addN_has (o : List α) (x : α) : key x ∈ (addN key o x).map key := by
  unfold addN
  split
  · assumption
  · simp
theorem addAll_has : ∀ (xs o : List α) (x : α), x ∈ xs → key x ∈ (addAll key o xs).map key
  | y :: xs, o, x, h => by
    rcases List.mem_cons.mp h with rfl | h
    · have p := addAll_prefix (key := key) xs (addN key o x)
      exact (List.IsPrefix.map key p).subset (addN_has o x)
    · exact addAll_has xs _ x h
theorem addN_mem {o : List α} {x y : α} (h : y ∈ addN key o x) : y ∈ o ∨ y = x := by
  unfold addN at h
  split at h
  · exact .inl h
  · simpa using h
theorem addAll_mem : ∀ {xs o : List α} {y : α}, y ∈ addAll key o xs → y ∈ o ∨ y ∈ xs
  | [], o, y, h => .inl h
  | x :: xs, o, y, h => by
    rcases addAll_mem (xs := xs) (o := addN key o x) h with h | h
    · rcases addN_mem h with h | rfl
      · exact .inl h
      · exact .inr (List.mem_cons_self ..)
    · exact .inr (List.mem_cons_of_mem _ h)
/-- what holds of the beginning and goes on, holds of all that is found -/
theorem bfs_all {P : α → Prop} (hc : ∀ x, P x → ∀ y ∈ nx x, P y) : ∀ (f i : Nat) (o : List α), (∀ x ∈ o, P x) → ∀ x ∈ bfs key nx f i o, P x
  | 0, _, o, h => h
  | f + 1, i, o, h => by
    unfold bfs
    split
    · exact h
    · rename_i x hx
      refine bfs_all hc f _ _ fun y hy => ?_
      rcases addAll_mem hy with hy | hy
      · exact h y hy
      · exact hc x (h x (List.mem_of_getElem? hx)) y hy
def Closed (key : α → κ) (nx : α → List α) (o : List α) : Prop := ∀ x ∈ o, ∀ y ∈ nx x, key y ∈ o.map key
/-- enough turns: all is found -/
theorem bfs_closed : ∀ (f i : Nat) (o : List α), (∀ (j : Nat) (x : α), j < i → o[j]? = some x → ∀ y ∈ nx x, key y ∈ o.map key) → (bfs key nx f i o).length ≤ f + i → Closed key nx (bfs key nx f i o)
  | 0, i, o, h, hl => fun x hx y hy => by
    obtain ⟨j, hj⟩ := List.mem_iff_getElem?.mp hx
    have hl : o.length ≤ 0 + i := hl
    have := (List.getElem?_eq_some_iff.mp hj).1
    have : j < o.length := this
    exact h j x (by omega) hj y hy
  | f + 1, i, o, h, hl => by
    unfold bfs at hl ⊢
    cases e : o[i]? with
    | none =>
      intro x hx y hy
      obtain ⟨j, hj⟩ := List.mem_iff_getElem?.mp hx
      have h1 := (List.getElem?_eq_some_iff.mp hj).1
      have h2 := List.getElem?_eq_none_iff.mp e
      exact h j x (Nat.lt_of_lt_of_le h1 h2) hj y hy
    | some z =>
      rw [e] at hl
      dsimp only at hl ⊢
      refine bfs_closed f (i + 1) _ (fun j x hj hx y hy => ?_) (by omega)
      have pr := addAll_prefix (key := key) (nx z) o
      have hi := (List.getElem?_eq_some_iff.mp e).1
      have hjo : j < o.length := Nat.lt_of_lt_of_le hj hi
      have hx' : o[j]? = some x := by
        obtain ⟨t, ht⟩ := pr
        rw [← ht, List.getElem?_append_left hjo] at hx
        exact hx
      rcases Nat.lt_or_ge j i with h1 | h1
      · exact (List.IsPrefix.map key pr).subset (h j x h1 hx' y hy)
      · have hji : j = i := by omega
        subst hji
        rw [e] at hx'
        cases hx'
        exact addAll_has _ _ y hy
theorem nodup_len {U : List κ} {o : List α} (h : (o.map key).Nodup) (hu : ∀ x ∈ o, key x ∈ U) : o.length ≤ U.length := by
  have := nodup_le h fun a ha => by
    obtain ⟨x, hx, rfl⟩ := List.mem_map.mp ha
    exact hu x hx
  rw [List.length_map] at this
  exact this
end

/-! ### one search seen through another one -/
section
variable {α κ β κ' : Type} [DecidableEq κ] [DecidableEq κ'] {key : α → κ} {nx : α → List α} {key' : β → κ'} {nx' : β → List β} {f : α → β} {P : α → Prop}
theorem sim_mem (hk : ∀ x y, P x → P y → (key x = key y ↔ key' (f x) = key' (f y))) {o : List α} {x : α} (ho : ∀ y ∈ o, P y) (hx : P x) : key x ∈ o.map key ↔ key' (f x) ∈ (o.map f).map key' := by
  simp only [List.mem_map]
  constructor
  · rintro ⟨y, hy, e⟩
    exact ⟨f y, ⟨y, hy, rfl⟩, (hk y x (ho y hy) hx).mp e⟩
  · rintro ⟨_, ⟨y, hy, rfl⟩, e⟩
    exact ⟨y, hy, (hk y x (ho y hy) hx).mpr e⟩
theorem sim_addN (hk : ∀ x y, P x → P y → (key x = key y ↔ key' (f x) = key' (f y))) {o : List α} {x : α} (ho : ∀ y ∈ o, P y) (hx : P x) : (addN key o x).map f = addN key' (o.map f) (f x) := by
  unfold addN
  by_cases h : key x ∈ o.map key
  · rw [if_pos h, if_pos ((sim_mem hk ho hx).mp h)]
  · rw [if_neg h, if_neg fun z => h ((sim_mem hk ho hx).mpr z), List.map_append, List.map_singleton]
theorem sim_addAll (hk : ∀ x y, P x → P y → (key x = key y ↔ key' (f x) = key' (f y))) : ∀ (xs o : List α), (∀ y ∈ o, P y) → (∀ x ∈ xs, P x) → (addAll key o xs).map f = addAll key' (o.map f) (xs.map f)
  | [], o, _, _ => rfl
  | x :: xs, o, ho, hx => by
    have h1 := hx x (List.mem_cons_self ..)
    show (addAll key (addN key o x) xs).map f = addAll key' (addN key' (o.map f) (f x)) (xs.map f)
    rw [← sim_addN hk ho h1]
    refine sim_addAll hk xs _ (fun y hy => ?_) fun y hy => hx y (List.mem_cons_of_mem _ hy)
    rcases addN_mem hy with hy | rfl
    · exact ho y hy
    · exact h1
theorem sim_bfs (hk : ∀ x y, P x → P y → (key x = key y ↔ key' (f x) = key' (f y))) (hc : ∀ x, P x → ∀ y ∈ nx x, P y) (hn : ∀ x, P x → (nx x).map f = nx' (f x)) : ∀ (n i : Nat) (o : List α), (∀ y ∈ o, P y) → (bfs key nx n i o).map f = bfs key' nx' n i (o.map f)
  | 0, _, o, _ => rfl
  | n + 1, i, o, ho => by
    unfold bfs
    rw [List.getElem?_map]
    cases e : o[i]? with
    | none => rfl
    | some x =>
      have px := ho x (List.mem_of_getElem? e)
      show (bfs key nx n (i + 1) (addAll key o (nx x))).map f = bfs key' nx' n (i + 1) (addAll key' (o.map f) (nx' (f x)))
      rw [← hn x px, ← sim_addAll hk (nx x) o ho (hc x px)]
      refine sim_bfs hk hc hn n (i + 1) _ fun y hy => ?_
      rcases addAll_mem hy with hy | hy
      · exact ho y hy
      · exact hc x px y hy
theorem sim_idx (hk : ∀ x y, P x → P y → (key x = key y ↔ key' (f x) = key' (f y))) : ∀ (o : List α) (x : α), (∀ y ∈ o, P y) → P x → (o.map key).idxOf (key x) = ((o.map f).map key').idxOf (key' (f x))
  | [], _, _, _ => rfl
  | y :: o, x, ho, hx => by
    have h1 := ho y (List.mem_cons_self ..)
    simp only [List.map_cons, List.idxOf_cons]
    have hb : (key y == key x) = (key' (f y) == key' (f x)) := by
      by_cases h : key y = key x
      · have h' := (hk y x h1 hx).mp h
        rw [h, h']; simp
      · have h' : ¬ key' (f y) = key' (f x) := fun z => h ((hk y x h1 hx).mpr z)
        rw [beq_eq_false_iff_ne.mpr h, beq_eq_false_iff_ne.mpr h']
    rw [hb, sim_idx hk o x (fun z hz => ho z (List.mem_cons_of_mem _ hz)) hx]
theorem sim_row (hk : ∀ x y, P x → P y → (key x = key y ↔ key' (f x) = key' (f y))) (hc : ∀ x, P x → ∀ y ∈ nx x, P y) (hn : ∀ x, P x → (nx x).map f = nx' (f x)) {o : List α} (ho : ∀ y ∈ o, P y) {x : α} (hx : P x) : rowOf key nx o x = rowOf key' nx' (o.map f) (f x) := by
  unfold rowOf
  rw [← hn x hx, List.map_map]
  refine List.map_congr_left fun y hy => ?_
  exact sim_idx hk o y ho (hc x hx y hy)
end

/-! ### languages -/
abbrev Lg := List Nat → Bool
def lang {α : Type} (nx : α → List α) (e : α → Bool) : List Nat → α → Bool
  | [], s => e s
  | a :: w, s => match (nx s)[a]? with
    | some t => lang nx e w t
    | none => false
def lg {α : Type} (nx : α → List α) (e : α → Bool) (s : α) : Lg := fun w => lang nx e w s
def nxL (k : Nat) (L : Lg) : List Lg := (List.range k).map fun a w => L (a :: w)
theorem lg_nx {α : Type} {nx : α → List α} {e : α → Bool} {k : Nat} {s : α} (h : (nx s).length = k) : (nx s).map (lg nx e) = nxL k (lg nx e s) := by
  refine List.ext_getElem? fun a => ?_
  unfold nxL
  rw [List.getElem?_map, List.getElem?_map]
  by_cases ha : a < k
  · rw [List.getElem?_range ha, List.getElem?_eq_getElem (by omega)]
    refine congrArg some ?_
    funext w
    show lang nx e w _ = lang nx e (a :: w) s
    unfold lang
    rw [List.getElem?_eq_getElem (by omega)]
    cases w <;> rfl
  · rw [List.getElem?_eq_none (by omega), List.getElem?_eq_none (by rw [List.length_range]; omega)]
    rfl
/-- the languages that are left over -/
noncomputable def cO (n k : Nat) (L : Lg) : List Lg := @bfs Lg Lg (fun a b => Classical.propDecidable (a = b)) id (nxL k) n 0 [L]
noncomputable def cRow (k : Nat) (O : List Lg) (L : Lg) : List Nat := @rowOf Lg Lg (fun a b => Classical.propDecidable (a = b)) id (nxL k) O L
noncomputable def cTab (n k : Nat) (L : Lg) : List (List Nat) := (cO n k L).map (cRow k (cO n k L))
noncomputable def cEnds (n k : Nat) (L : Lg) : List Nat := (List.range (cO n k L).length).filter fun i => match (cO n k L)[i]? with | some M => M [] | none => false
/-- a search by keys that tell the languages apart gives the one machine of the language -/
theorem canon_of {α κ : Type} [DecidableEq κ] {key : α → κ} {nx : α → List α} {e : α → Bool} {P : α → Prop} {k n : Nat} {b : α} (hb : P b) (hc : ∀ x, P x → ∀ y ∈ nx x, P y) (hl : ∀ x, P x → (nx x).length = k)
    (hk : ∀ x y, P x → P y → (key x = key y ↔ lg nx e x = lg nx e y)) :
    (bfs key nx n 0 [b]).map (rowOf key nx (bfs key nx n 0 [b])) = cTab n k (lg nx e b) ∧
    (List.range (bfs key nx n 0 [b]).length).filter (fun i => match (bfs key nx n 0 [b])[i]? with | some x => e x | none => false) = cEnds n k (lg nx e b) := by
  letI : DecidableEq Lg := fun a b => Classical.propDecidable (a = b)
  have hk' : ∀ x y, P x → P y → (key x = key y ↔ id (lg nx e x) = id (lg nx e y)) := hk
  have hn : ∀ x, P x → (nx x).map (lg nx e) = nxL k (lg nx e x) := fun x hx => lg_nx (hl x hx)
  have hO : (bfs key nx n 0 [b]).map (lg nx e) = cO n k (lg nx e b) := sim_bfs (key' := (id : Lg → Lg)) hk' hc hn n 0 [b] fun y hy => by rw [List.mem_singleton.mp hy]; exact hb
  have hP : ∀ x ∈ bfs key nx n 0 [b], P x := bfs_all hc n 0 [b] fun y hy => by rw [List.mem_singleton.mp hy]; exact hb
  constructor
  · unfold cTab
    rw [← hO, List.map_map]
    refine List.map_congr_left fun x hx => ?_
    exact sim_row (key' := (id : Lg → Lg)) hk' hc hn hP (hP x hx)
  · unfold cEnds
    rw [← hO, List.length_map]
    refine List.filter_congr fun i hi => ?_
    rw [List.getElem?_map]
    cases (bfs key nx n 0 [b])[i]? <;> rfl
end Dm

/-! M0b: plain: the found table's language; classes made finer. -/
namespace Dm
open Dl (addK dd)
theorem idxOf_get {κ : Type} [BEq κ] [LawfulBEq κ] {l : List κ} {k : κ} (h : k ∈ l) : l[l.idxOf k]? = some k := by
  rw [List.getElem?_eq_getElem (List.idxOf_lt_length_of_mem h)]
  exact congrArg some (List.getElem_idxOf (List.idxOf_lt_length_of_mem h))
theorem idxOf_inj {κ : Type} [BEq κ] [LawfulBEq κ] {l : List κ} {k k' : κ} (h : k ∈ l) (h' : k' ∈ l) (e : l.idxOf k = l.idxOf k') : k = k' := by
  have h1 := idxOf_get h
  have h2 := idxOf_get h'
  rw [e, h2] at h1
  exact (Option.some.inj h1).symm
/-- the rows of a table, by number -/
def nxT (T : List (List Nat)) (s : Nat) : List Nat := T.getD s []
theorem nxT_at {T : List (List Nat)} {s : Nat} {r : List Nat} (h : T[s]? = some r) : nxT T s = r := by
  unfold nxT
  rw [List.getD_eq_getElem?_getD, h]
  rfl
def eO {α : Type} (O : List α) (e : α → Bool) (i : Nat) : Bool := match O[i]? with | some x => e x | none => false
theorem tab_lang {α κ : Type} [DecidableEq κ] {key : α → κ} {nx : α → List α} {e : α → Bool} {P : α → Prop} {O : List α} (hc : ∀ x, P x → ∀ y ∈ nx x, P y) (hO : ∀ x ∈ O, P x) (hcl : Closed key nx O)
    (hk : ∀ x y, P x → P y → key x = key y → lg nx e x = lg nx e y) : ∀ (w : List Nat) (j : Nat) (x : α), O[j]? = some x → lang (nxT (O.map (rowOf key nx O))) (eO O e) w j = lang nx e w x
  | [], j, x, h => by
    show eO O e j = e x
    unfold eO
    rw [h]
  | a :: w, j, x, h => by
    have hr : nxT (O.map (rowOf key nx O)) j = rowOf key nx O x := nxT_at (by rw [List.getElem?_map, h]; rfl)
    unfold lang
    rw [hr]
    unfold rowOf
    rw [List.getElem?_map]
    cases hy : (nx x)[a]? with
    | none => rfl
    | some y =>
      have hx := hO x (List.mem_of_getElem? h)
      have hym := List.mem_of_getElem? hy
      have hky := hcl x (List.mem_of_getElem? h) y hym
      have hg := idxOf_get hky
      rw [List.getElem?_map] at hg
      cases hz : O[(O.map key).idxOf (key y)]? with
      | none => rw [hz] at hg; cases hg
      | some z =>
        rw [hz] at hg
        have hzk : key z = key y := Option.some.inj hg
        show lang (nxT (O.map (rowOf key nx O))) (eO O e) w ((O.map key).idxOf (key y)) = lang nx e w y
        rw [tab_lang hc hO hcl hk w _ z hz]
        exact congrFun (hk z y (hO z (List.mem_of_getElem? hz)) (hc x hx y hym) hzk) w

/-! ### classes -/
structure Tab (k : Nat) (T : List (List Nat)) : Prop where
  row : ∀ r ∈ T, r.length = k
  low : ∀ r ∈ T, ∀ s ∈ r, s < T.length
theorem Tab.nxlen {k : Nat} {T : List (List Nat)} (h : Tab k T) {s : Nat} (hs : s < T.length) : (nxT T s).length = k := by
  have := h.row T[s] (List.getElem_mem hs)
  rw [nxT_at (List.getElem?_eq_getElem hs)]
  exact this
theorem Tab.nxlow {k : Nat} {T : List (List Nat)} (h : Tab k T) {s : Nat} (hs : s < T.length) {t : Nat} (ht : t ∈ nxT T s) : t < T.length := by
  rw [nxT_at (List.getElem?_eq_getElem hs)] at ht
  exact h.low T[s] (List.getElem_mem hs) t ht
def at0 (C : List Nat) (s : Nat) : Nat := C.getD s 0
def keyC (T : List (List Nat)) (C : List Nat) (s : Nat) : List Nat := at0 C s :: (nxT T s).map (at0 C)
def keysC (T : List (List Nat)) (C : List Nat) : List (List Nat) := (List.range T.length).map (keyC T C)
def finer (T : List (List Nat)) (C : List Nat) : List Nat := (keysC T C).map fun q => (dd (keysC T C)).idxOf q
theorem at0_map {f : Nat → Nat} {n s : Nat} (h : s < n) : at0 ((List.range n).map f) s = f s := by
  unfold at0
  rw [List.getD_eq_getElem?_getD, List.getElem?_map, List.getElem?_range h]
  rfl
theorem finer_eq (T : List (List Nat)) (C : List Nat) : finer T C = (List.range T.length).map fun s => (dd (keysC T C)).idxOf (keyC T C s) := by
  unfold finer
  conv => lhs; arg 2; unfold keysC
  rw [List.map_map]
  rfl
theorem finer_len (T : List (List Nat)) (C : List Nat) : (finer T C).length = T.length := by rw [finer_eq, List.length_map, List.length_range]
theorem finer_iff {T : List (List Nat)} {C : List Nat} {i j : Nat} (hi : i < T.length) (hj : j < T.length) : at0 (finer T C) i = at0 (finer T C) j ↔ keyC T C i = keyC T C j := by
  rw [finer_eq, at0_map hi, at0_map hj]
  constructor
  · exact fun h => idxOf_inj ((dd_mem _).mpr (List.mem_map.mpr ⟨i, List.mem_range.mpr hi, rfl⟩)) ((dd_mem _).mpr (List.mem_map.mpr ⟨j, List.mem_range.mpr hj, rfl⟩)) h
  · exact fun h => by rw [h]
theorem list_at0 {C : List Nat} {n : Nat} (h : C.length = n) : C = (List.range n).map (at0 C) := by
  refine List.ext_getElem? fun i => ?_
  rw [List.getElem?_map]
  by_cases hi : i < n
  · rw [List.getElem?_range hi, List.getElem?_eq_getElem (by omega)]
    show some C[i] = some (C.getD i 0)
    rw [List.getD_eq_getElem?_getD, List.getElem?_eq_getElem (by omega)]
    rfl
  · rw [List.getElem?_eq_none (by omega), List.getElem?_eq_none (by rw [List.length_range]; omega)]
    rfl
structure Good (T : List (List Nat)) (e : Nat → Bool) (C : List Nat) : Prop where
  len : C.length = T.length
  same : ∀ i j, i < T.length → j < T.length → lg (nxT T) e i = lg (nxT T) e j → at0 C i = at0 C j
  ends : ∀ i j, i < T.length → j < T.length → at0 C i = at0 C j → e i = e j
theorem Good.finer {k : Nat} {T : List (List Nat)} {e : Nat → Bool} {C : List Nat} (hT : Tab k T) (h : Good T e C) : Good T e (finer T C) where
  len := finer_len T C
  same := fun i j hi hj hl => by
    rw [finer_iff hi hj]
    unfold keyC
    rw [h.same i j hi hj hl]
    refine congrArg _ ?_
    have h1 := lg_nx (e := e) (hT.nxlen hi)
    have h2 := lg_nx (e := e) (hT.nxlen hj)
    rw [hl, ← h2] at h1
    have l1 := hT.nxlen hi
    have l2 := hT.nxlen hj
    refine List.ext_getElem (by rw [List.length_map, List.length_map, l1, l2]) fun a ha hb => ?_
    rw [List.getElem_map, List.getElem_map]
    rw [List.length_map] at ha hb
    refine h.same _ _ (hT.nxlow hi (List.getElem_mem ha)) (hT.nxlow hj (List.getElem_mem hb)) ?_
    have := congrArg (fun l => l[a]?) h1
    simp only [List.getElem?_map, List.getElem?_eq_getElem ha, List.getElem?_eq_getElem hb, Option.map_some] at this
    exact Option.some.inj this
  ends := fun i j hi hj hc => by
    rw [finer_iff hi hj] at hc
    unfold keyC at hc
    exact h.ends i j hi hj (List.cons.inj hc).1
theorem card_le {T : List (List Nat)} {C : List Nat} (h : C.length = T.length) : (dd C).length ≤ (dd (finer T C)).length ∧ ((dd C).length = (dd (finer T C)).length → ∀ i j, i < T.length → j < T.length → at0 C i = at0 C j → at0 (finer T C) i = at0 (finer T C) j) := by
  have := dd_finer T.length (at0 (finer T C)) (at0 C) fun i j hi hj hc => by
    rw [finer_iff hi hj] at hc
    unfold keyC at hc
    exact (List.cons.inj hc).1
  rw [← list_at0 h, ← list_at0 (finer_len T C)] at this
  exact this
theorem fix_lang {k : Nat} {T : List (List Nat)} {e : Nat → Bool} {C : List Nat} (hT : Tab k T) (h : Good T e C) (hf : ∀ i j, i < T.length → j < T.length → at0 C i = at0 C j → at0 (finer T C) i = at0 (finer T C) j) :
    ∀ (w : List Nat) (i j : Nat), i < T.length → j < T.length → at0 C i = at0 C j → lang (nxT T) e w i = lang (nxT T) e w j
  | [], i, j, hi, hj, hc => h.ends i j hi hj hc
  | a :: w, i, j, hi, hj, hc => by
    have hk := (finer_iff hi hj).mp (hf i j hi hj hc)
    unfold keyC at hk
    have hr := (List.cons.inj hk).2
    have := congrArg (fun l => l[a]?) hr
    simp only [List.getElem?_map] at this
    unfold lang
    have l1 := hT.nxlen hi
    have l2 := hT.nxlen hj
    by_cases ha : a < k
    · rw [List.getElem?_eq_getElem (by omega), List.getElem?_eq_getElem (by omega)] at this ⊢
      exact fix_lang hT h hf w _ _ (hT.nxlow hi (List.getElem_mem _)) (hT.nxlow hj (List.getElem_mem _)) (Option.some.inj this)
    · rw [List.getElem?_eq_none (by omega), List.getElem?_eq_none (by omega)]
/-- the classes tell the languages apart -/
def Told (T : List (List Nat)) (e : Nat → Bool) (C : List Nat) : Prop := C.length = T.length ∧ ∀ i j, i < T.length → j < T.length → (at0 C i = at0 C j ↔ lg (nxT T) e i = lg (nxT T) e j)
theorem told_of {k : Nat} {T : List (List Nat)} {e : Nat → Bool} {C : List Nat} (hT : Tab k T) (h : Good T e C) (hd : (dd C).length = (dd (finer T C)).length) : Told T e (finer T C) := by
  have hf := (card_le h.len).2 hd
  refine ⟨finer_len T C, fun i j hi hj => ⟨fun hc => ?_, (h.finer hT).same i j hi hj⟩⟩
  have hk := (finer_iff hi hj).mp hc
  unfold keyC at hk
  funext w
  exact fix_lang hT h hf w i j hi hj (List.cons.inj hk).1
end Dm

/-! M1: numbers in dicts; classes_of. -/
namespace Dm
open PySem PySem.Spec PyProof.Rows L2 Dl
def nats (l : List Nat) : List Dat := l.map fun s => .int (s : Nat)
theorem nats_len (l : List Nat) : (nats l).length = l.length := List.length_map ..
theorem nats_app (l m : List Nat) : nats (l ++ m) = nats l ++ nats m := List.map_append
theorem atI_nat {α : Type} {xs : List α} {i : Nat} {x : α} (h : xs[i]? = some x) : atI xs (i : Nat) = some x := by
  obtain ⟨hi, e⟩ := List.getElem?_eq_some_iff.mp h
  obtain ⟨h1, h2⟩ := atI_of (xs := xs) (i := ((i : Nat) : Int)) (by omega) (by omega)
  rw [h2]
  refine congrArg some ?_
  rw [← e]
  congr 1
theorem at_lst {ds : List Dat} {i : Nat} {x : Dat} (h : ds[i]? = some x) : semAt (.lst ds) (.int (i : Nat)) = some (.val x) := by
  show (atI _ _).map Out.val = _
  rw [atI_nat h]
  rfl
theorem at_tup {ds : List Dat} {i : Nat} {x : Dat} (h : ds[i]? = some x) : semAt (.tup ds) (.int (i : Nat)) = some (.val x) := by
  show (atI _ _).map Out.val = _
  rw [atI_nat h]
  rfl
theorem nats_at {l : List Nat} {i : Nat} (h : i < l.length) : (nats l)[i]? = some (.int (at0 l i : Nat)) := by
  unfold nats at0
  rw [List.getElem?_map, List.getD_eq_getElem?_getD, List.getElem?_eq_getElem h]
  rfl
theorem at_nats {l : List Nat} {i : Nat} (h : i < l.length) : semAt (.lst (nats l)) (.int (i : Nat)) = some (.val (.int (at0 l i : Nat))) := at_lst (nats_at h)
/-! ### dicts that number their keys -/
structure Enc {κ : Type} [DecidableEq κ] (enc : κ → Dat) : Prop where
  ok : ∀ (l : List κ) (k : κ), okey (l.map enc) (enc k) = true
  eq : ∀ k l, eqK (enc k) (enc l) = decide (k = l)
def nD {κ : Type} (enc : κ → Dat) (ks : List κ) : Dat := .dct (ks.map enc) (nats (List.range ks.length))
section
variable {κ : Type} [DecidableEq κ] {enc : κ → Dat} (he : Enc enc)
include he
theorem hasK_enc (k : κ) : ∀ l : List κ, hasK (enc k) (l.map enc) = decide (k ∈ l)
  | [] => rfl
  | x :: l => by
    have ih := hasK_enc k l
    unfold hasK at ih ⊢
    rw [List.map_cons, List.any_cons, ih, he.eq]
    by_cases h : x = k
    · subst h; simp
    · simp [h, Ne.symm h]
theorem inD_enc (k : κ) (l : List κ) (vs : List Dat) : inD (enc k) (.dct (l.map enc) vs) = some (decide (k ∈ l)) := by
  have h1 := he.ok l k
  have h2 := hasK_enc he k l
  rw [← h2]
  generalize enc k = d at h1
  cases d <;> exact if_pos h1
theorem notIn_enc (k : κ) (l : List κ) (vs : List Dat) : semNotIn (enc k) (.dct (l.map enc) vs) = some (.val (.bl (!decide (k ∈ l)))) := by
  unfold semNotIn
  rw [inD_enc he]
  rfl
theorem in_enc (k : κ) (l : List κ) (vs : List Dat) : semIn (enc k) (.dct (l.map enc) vs) = some (.val (.bl (decide (k ∈ l)))) := by
  unfold semIn
  rw [inD_enc he]
  rfl
theorem getV_enc [BEq κ] [LawfulBEq κ] (k : κ) : ∀ (l : List κ) (a : Nat), getV (enc k) (l.map enc) ((List.range' a l.length).map fun s => Dat.int (s : Nat)) = if k ∈ l then some (.int ((a + l.idxOf k : Nat) : Int)) else none
  | [], a => rfl
  | x :: l, a => by
    rw [List.map_cons, List.length_cons, List.range'_succ, List.map_cons]
    show (if eqK (enc x) (enc k) = true then _ else _) = _
    rw [he.eq]
    by_cases h : x = k
    · subst h
      simp [List.idxOf_cons]
    · rw [if_neg (by simp [h]), getV_enc k l (a + 1)]
      have hb : (x == k) = false := beq_eq_false_iff_ne.mpr h
      by_cases hk : k ∈ l
      · rw [if_pos hk, if_pos (List.mem_cons_of_mem _ hk), List.idxOf_cons, hb]
        simp only [cond_false]
        rw [show a + 1 + l.idxOf k = a + (l.idxOf k + 1) by omega]
      · rw [if_neg hk, if_neg (by simp [hk, Ne.symm h])]
theorem getV_n [BEq κ] [LawfulBEq κ] (k : κ) (l : List κ) : getV (enc k) (l.map enc) (nats (List.range l.length)) = if k ∈ l then some (.int (l.idxOf k : Nat)) else none := by
  have := getV_enc he k l 0
  rw [Nat.zero_add] at this
  unfold nats
  rw [List.range_eq_range']
  exact this
theorem at_n [BEq κ] [LawfulBEq κ] {k : κ} {l : List κ} (h : k ∈ l) : semAt (nD enc l) (enc k) = some (.val (.int (l.idxOf k : Nat))) := by
  unfold nD
  show (if okey _ _ = true then (getV _ _ _).map Out.val else none) = _
  rw [if_pos (he.ok l k), getV_n he, if_pos h]
  rfl
theorem put_n {k : κ} {l : List κ} (h : k ∉ l) : putD (enc k) (.int (l.length : Nat)) (l.map enc) (nats (List.range l.length)) = nD enc (l ++ [k]) := by
  unfold putD nD
  rw [hasK_enc he, decide_eq_false h, if_neg Bool.false_ne_true, List.map_append, List.length_append, List.length_singleton, List.range_succ, nats_app]
  rfl
omit he in
theorem len_n (l : List κ) : semLen (nD enc l) = some (.val (.int (l.length : Nat))) := by
  show some (Out.val (.int (((l.map enc).length : Nat) : Int))) = _
  rw [List.length_map]
end
theorem encN_ok : Enc (fun s : Nat => Dat.int (s : Nat)) where
  ok := fun l k => by
    unfold okey
    have h : (l.map fun s : Nat => Dat.int (s : Nat)).all flatK = true := by
      rw [List.all_eq_true]
      intro d hd
      obtain ⟨x, _, rfl⟩ := List.mem_map.mp hd
      rfl
    rw [h]
    rfl
  eq := fun k l => by
    rw [eqK_int]
    by_cases h : k = l
    · simp [h]
    · have : ¬ ((k : Nat) : Int) = (l : Nat) := by omega
      simp [h, this]
def tD (q : List Nat) : Dat := .tup (nats q)
theorem nkeys_nats : ∀ q : List Nat, nkeys (nats q) = q.map fun s => NestedKey.num (s : Nat)
  | [] => rfl
  | s :: q => by
    show NestedKey.num (s : Nat) :: nkeys (nats q) = _
    rw [nkeys_nats q]
    rfl
theorem nokeys_nats (n : Nat) : ∀ q : List Nat, nokeys n (nats q) = true
  | [] => by unfold nats; simp [nokeys]
  | s :: q => by
    show nokeys n (Dat.int (s : Nat) :: nats q) = true
    rw [nokeys, nokeys_nats n q]
    simp [nokey]
theorem encT_ok : Enc tD where
  ok := fun l k => by
    unfold okey
    have h : (l.map tD).all tupK = true := by
      rw [List.all_eq_true]
      intro d hd
      obtain ⟨x, _, rfl⟩ := List.mem_map.mp hd
      exact nokeys_nats 7 x
    rw [h, show tupK (tD k) = true from nokeys_nats 7 k]
    simp
  eq := fun k l => by
    have e : eqK (tD k) (tD l) = decide (NestedKey.tup (nkeys (nats k)) = NestedKey.tup (nkeys (nats l))) := rfl
    rw [e, nkeys_nats, nkeys_nats]
    by_cases h : k = l
    · simp [h]
    · rw [decide_eq_false h]
      refine decide_eq_false fun z => h ?_
      injection z with z
      exact List.map_inj_right (fun a b q => by injection q with q; omega) |>.mp z
end Dm

/-! M2: classes_of. -/
namespace Dm
open PySem PySem.Spec PyProof.Rows L2 Dl
def d_classes_of : Df := { N := ["table", "ends", "classes", "many", "numbers", "found", "state", "row", "key", "one"], ps := 2, io := none, body :=
    (.cons (.set 2 (.comp [6] (.name 6) (.rng1 (.op1 .len (.var 0))) .no (.op1 .int (.op2 .isIn (.var 6) (.var 1)))))
    (.cons (.set 3 (.int 0))
    (.cons (.whl (.cmp .ne (.var 3) (.op1 .lset (.var 2))) (.cons (.set 3 (.op1 .lset (.var 2)))
    (.cons (.set 4 (.dct .nil))
    (.cons (.set 5 (.lst .nil))
    (.cons (.for_ (.tup [6, 7]) (.enm (.cons (.var 0) .nil)) (.cons (.set 8 (.op2 .add (.tup (.cons (.op2 .at (.var 2) (.var 6)) .nil)) (.op1 .tuple (.comp [9] (.name 9) (.seq (.var 7)) .no (.op2 .at (.var 2) (.var 9))))))
    (.cons (.expr (.setd 4 (.var 8) (.op1 .len (.var 4))))
    (.cons (.expr (.app 5 (.op2 .at (.var 4) (.var 8))))
    .nil))) [1, 6, 7, 8, 9])
    (.cons (.set 2 (.var 5))
    .nil))))) [1, 4, 5, 6, 7, 8, 9])
    (.cons (.ret (.var 2))
    .nil)))) }

def tabD (T : List (List Nat)) : Dat := .lst (T.map fun r => .lst (nats r))
theorem big9 {n : Nat} (h : n ≤ 100000) : n < sizeLine := by
  have : (100000 : Nat) < sizeLine := by decide
  omega
theorem compD_nats {f : Dat → Rho → Option (Option Dat × Rho)} (st : Rho) (g : Nat → Dat) (l : List Nat) (h : ∀ s ∈ l, f (.int (s : Nat)) st = some (some (g s), st)) : compD f (nats l) st = some (l.map g, st) := by
  have := compD_map (f := f) st (fun d => match d with | .int i => g i.toNat | d => d) (nats l) fun d hd => by
    obtain ⟨s, hs, rfl⟩ := List.mem_map.mp hd
    rw [h s hs]
    rfl
  rw [this]
  unfold nats
  rw [List.map_map]
  rfl
theorem idxOf_prefix {κ : Type} [BEq κ] [LawfulBEq κ] {l m : List κ} {q : κ} (h : l <+: m) (hq : q ∈ l) : m.idxOf q = l.idxOf q := by
  obtain ⟨t, rfl⟩ := h
  rw [List.idxOf_append, if_pos hq]
theorem enumD_get' : ∀ (xs : List Dat) (a i : Nat), (enumD a xs)[i]? = (xs[i]?).map fun x => .tup [.int ((a + i : Nat) : Int), x]
  | [], a, i => by simp [enumD]
  | x :: xs, a, 0 => rfl
  | x :: xs, a, i + 1 => by
    show (enumD (a + 1) xs)[i]? = _
    rw [enumD_get' xs (a + 1) i]
    simp only [List.getElem?_cons_succ]
    rw [show a + 1 + i = a + (i + 1) by omega]
theorem enumD_len' : ∀ (xs : List Dat) (a : Nat), (enumD a xs).length = xs.length
  | [], a => rfl
  | x :: xs, a => by
    show (enumD (a + 1) xs).length + 1 = _
    rw [enumD_len' xs (a + 1)]
    rfl
theorem intsOf_nats : ∀ l : List Nat, intsOf (nats l) = some (l.map fun s => ((s : Nat) : Int))
  | [] => rfl
  | s :: l => by
    show (intsOf (nats l)).map _ = _
    rw [intsOf_nats l]
    rfl
theorem dd_map_inj {α β : Type} [DecidableEq α] [DecidableEq β] {f : α → β} (hf : ∀ a b, f a = f b → a = b) (l : List α) : dd (l.map f) = (dd l).map f := by
  have : ∀ (l ks : List α), (l.map f).foldl (fun ks k => addK k ks) (ks.map f) = (l.foldl (fun ks k => addK k ks) ks).map f := by
    intro l
    induction l with
    | nil => exact fun ks => rfl
    | cons x l ih =>
      intro ks
      rw [List.map_cons, List.foldl_cons, List.foldl_cons, ← ih]
      congr 1
      unfold addK
      by_cases h : x ∈ ks
      · rw [if_pos h, if_pos (List.mem_map.mpr ⟨x, h, rfl⟩)]
      · rw [if_neg h, if_neg fun z => h (by obtain ⟨y, hy, e⟩ := List.mem_map.mp z; rw [← hf y x e]; exact hy), List.map_append]
        rfl
  exact this l []
theorem lset_nats {l : List Nat} (h : l.length ≤ 4000) : semLset (.lst (nats l)) = some (.val (.int ((dd l).length : Nat))) := by
  show (match intsOf (nats l) with | some xs => if xs.length + 1 < scanBound then some (Out.val (.int (dd xs).length)) else none | none => none) = _
  rw [intsOf_nats]
  dsimp only
  rw [if_pos (by rw [List.length_map]; show l.length + 1 < 4096; omega), dd_map_inj (fun a b e => by omega), List.length_map]

section
variable (W : Wd) (n : Nat) {k : Nat} {T : List (List Nat)} (hT : Tab k T) (hk : k ≤ 1000) (hn : T.length ≤ 4000)
/-- the loop over the rows -/
abbrev inC : Ss := (.cons (.set 8 (.op2 .add (.tup (.cons (.op2 .at (.var 2) (.var 6)) .nil)) (.op1 .tuple (.comp [9] (.name 9) (.seq (.var 7)) .no (.op2 .at (.var 2) (.var 9))))))
    (.cons (.expr (.setd 4 (.var 8) (.op1 .len (.var 4))))
    (.cons (.expr (.app 5 (.op2 .at (.var 4) (.var 8))))
    .nil)))
def sC (T : List (List Nat)) (C : List Nat) (m : Mu) (many : Nat) (ks : List (List Nat)) (fo : List Nat) : Rho :=
  [some ⟨tabD T, .fz⟩, none, some ⟨.lst (nats C), m⟩, some ⟨.int (many : Nat), .fz⟩, some ⟨nD tD ks, .own⟩, some ⟨.lst (nats fo), .own⟩, none, none, none, none]
def sD (T : List (List Nat)) (C : List Nat) (m : Mu) (many : Nat) (ks : List (List Nat)) (fo : List Nat) (i : Nat) (r : List Nat) (o : Option Sl) : Rho :=
  [some ⟨tabD T, .fz⟩, none, some ⟨.lst (nats C), m⟩, some ⟨.int (many : Nat), .fz⟩, some ⟨nD tD ks, .own⟩, some ⟨.lst (nats fo), .own⟩, some ⟨.int (i : Nat), .fz⟩, some ⟨.lst (nats r), .fz⟩, o, none]
include hT hk hn
theorem row_key {C : List Nat} (hC : C.length = T.length) (m : Mu) (many : Nat) (ks : List (List Nat)) (fo : List Nat) {i : Nat} (hi : i < T.length) :
    runS W n (.set 8 (.op2 .add (.tup (.cons (.op2 .at (.var 2) (.var 6)) .nil)) (.op1 .tuple (.comp [9] (.name 9) (.seq (.var 7)) .no (.op2 .at (.var 2) (.var 9)))))) (sD T C m many ks fo i (nxT T i) none) = some (.next (sD T C m many ks fo i (nxT T i) (some ⟨tD (keyC T C i), .fz⟩))) := by
  have e1 : semAt (.lst (nats C)) (.int (i : Nat)) = some (.val (.int (at0 C i : Nat))) := at_nats (by omega)
  have cp : Dl.run W (.comp [9] (.name 9) (.seq (.var 7)) .no (.op2 .at (.var 2) (.var 9))) (sD T C m many ks fo i (nxT T i) none) = some (.fresh (.lst (nats ((nxT T i).map (at0 C)))), sD T C m many ks fo i (nxT T i) none) := by
    rw [run_comp]
    have hI : runI W (.seq (.var 7)) (sD T C m many ks fo i (nxT T i) none) = some (nats (nxT T i), sD T C m many ks fo i (nxT T i) none) := by
      simp [sD, look, frz, items]
    rw [hI]
    show (compD _ (nats (nxT T i)) (sD T C m many ks fo i (nxT T i) none)).bind _ = _
    rw [compD_nats (sD T C m many ks fo i (nxT T i) none) (fun s => .int (at0 C s : Nat)) (nxT T i) fun s hs => by
      have e2 : semAt (.lst (nats C)) (.int (s : Nat)) = some (.val (.int (at0 C s : Nat))) := at_nats (by have := hT.nxlow hi hs; omega)
      simp only [sD]
      generalize nats C = z at e2 ⊢
      simp [turnC, bindT, look, res, frz, sem2, pre2, e2, wipeR]]
    unfold nats
    rw [List.map_map]
    rfl
  have ad : semAdd (.tup [.int (at0 C i : Nat)]) (.tup (nats ((nxT T i).map (at0 C)))) = some (.val (tD (keyC T C i))) := by
    have hl : (nxT T i).length = k := hT.nxlen hi
    have hc : ([Dat.int (at0 C i : Nat)] : List Dat).length + (nats ((nxT T i).map (at0 C))).length ≤ sizeLine := by
      rw [nats_len, List.length_map, hl]
      exact Nat.le_of_lt (big9 (by show 1 + k ≤ 100000; omega))
    exact if_pos ⟨rfl, hc⟩
  have tp : Dl.run W (.tup (.cons (.op2 .at (.var 2) (.var 6)) .nil)) (sD T C m many ks fo i (nxT T i) none) = some (.val (.tup [.int (at0 C i : Nat)]), sD T C m many ks fo i (nxT T i) none) := by
    simp only [sD]
    generalize nats C = z at e1 ⊢
    simp [look, res, frz, sem2, pre2, e1]
  rw [runS_set, run_op2, tp]
  simp only [Option.bind_some, res, pre2, run_op1, cp, sem1, semTuple, sem2, ad, if_true]
  rfl
theorem row_turn {C : List Nat} (hC : C.length = T.length) (m : Mu) (many : Nat) (ks : List (List Nat)) (fo : List Nat) {i : Nat} (hi : i < T.length) (lk : ks.length ≤ i) (lf : fo.length ≤ i) :
    ∃ r', stepF W n (.tup [6, 7]) inC (.tup [.int (i : Nat), .lst (nats (nxT T i))]) (sC T C m many ks fo) = some (.next r') ∧ wipeR r' [1, 6, 7, 8, 9] = sC T C m many (addK (keyC T C i) ks) (fo ++ [(addK (keyC T C i) ks).idxOf (keyC T C i)]) := by
  generalize hq : keyC T C i = q
  have rk := row_key W n hT hk hn hC m many ks fo hi
  rw [hq] at rk
  refine ⟨sD T C m many (addK q ks) (fo ++ [(addK q ks).idxOf q]) i (nxT T i) (some ⟨tD q, .fz⟩), ?_, rfl⟩
  show runB W n inC (sD T C m many ks fo i (nxT T i) none) = _
  refine (runB_next rk).trans ?_
  have sl : ks.length < sizeLine := big9 (by omega)
  have okk := encT_ok.ok ks q
  have lks : (nats (List.range ks.length)).length = (ks.map tD).length := by rw [nats_len, List.length_range, List.length_map]
  have lks2 : (ks.map tD).length < sizeLine := by rw [List.length_map]; exact sl
  have gv := getV_n encT_ok q ks
  have s1 : runS W n (.expr (.setd 4 (.var 8) (.op1 .len (.var 4)))) (sD T C m many ks fo i (nxT T i) (some ⟨tD q, .fz⟩)) = some (.next (sD T C m many (addK q ks) fo i (nxT T i) (some ⟨tD q, .fz⟩))) := by
    have ln := len_n (enc := tD) ks
    rw [runS_expr, run_setd]
    have h1 : Dl.run W (.op1 .len (.var 4)) (sD T C m many ks fo i (nxT T i) (some ⟨tD q, .fz⟩)) = some (.val (.int (ks.length : Nat)), sD T C m many ks fo i (nxT T i) (some ⟨tD q, .fz⟩)) := by
      simp only [sD]
      generalize nD tD ks = z at ln ⊢
      simp [look, res, sem1, ln]
    have h0 : look (sD T C m many ks fo i (nxT T i) (some ⟨tD q, .fz⟩)) 4 = some ⟨nD tD ks, .own⟩ := rfl
    have h8 : Dl.run W (.var 8) (sD T C m many ks fo i (nxT T i) (some ⟨tD q, .fz⟩)) = some (.place 8, sD T C m many ks fo i (nxT T i) (some ⟨tD q, .fz⟩)) := rfl
    have f8 : frz (sD T C m many ks fo i (nxT T i) (some ⟨tD q, .fz⟩)) (.place 8) = some (tD q, sD T C m many ks fo i (nxT T i) (some ⟨tD q, .fz⟩)) := rfl
    rw [h0]
    simp only [Option.bind_some]
    rw [if_pos (show isDct (nD tD ks) = true from rfl), h8]
    simp only [Option.bind_some]
    rw [f8]
    simp only [Option.bind_some]
    rw [h1]
    simp only [Option.bind_some, frz]
    rw [h0]
    unfold nD
    dsimp only
    rw [if_pos ⟨okk, lks2, lks⟩, gv]
    unfold addK
    by_cases hm : q ∈ ks
    · rw [if_pos hm, if_pos hm]
      rfl
    · rw [if_neg hm, if_neg hm]
      dsimp only
      rw [put_n encT_ok hm]
      rfl
  refine (runB_next s1).trans ?_
  have hm : q ∈ addK q ks := addK_mem'.mpr (.inr rfl)
  have av := at_n encT_ok hm
  have lf2 : (nats fo).length < sizeLine := by rw [nats_len]; exact big9 (by omega)
  refine (runB_next (r' := sD T C m many (addK q ks) (fo ++ [(addK q ks).idxOf q]) i (nxT T i) (some ⟨tD q, .fz⟩)) ?_).trans (by rw [runB_nil])
  rw [runS_expr, run_app]
  simp only [sD]
  generalize nD tD (addK q ks) = z at av ⊢
  generalize hz : tD q = y at av ⊢
  have na : nats (fo ++ [List.idxOf q (addK q ks)]) = nats fo ++ [.int ((addK q ks).idxOf q : Nat)] := nats_app _ _
  rw [na]
  simp [look, res, frz, sem2, pre2, av, isLst, lf2]
/-- all rows -/
theorem rows_run {C : List Nat} (hC : C.length = T.length) (m : Mu) (many : Nat) :
    forD (stepF W n (.tup [6, 7]) inC) [1, 6, 7, 8, 9] (enumD 0 (T.map fun r => .lst (nats r))) (sC T C m many [] []) = some (.next (sC T C m many (dd (keysC T C)) (finer T C))) := by
  have key := forD_ix (f := stepF W n (.tup [6, 7]) inC) (wp := [1, 6, 7, 8, 9]) (fun i r => r = sC T C m many (dd ((keysC T C).take i)) (((keysC T C).take i).map fun q => (dd (keysC T C)).idxOf q)) (enumD 0 (T.map fun r => .lst (nats r))) 0 (sC T C m many [] []) (by rw [List.take_zero]; rfl) (by
    intro i d r hd hr
    rw [Nat.zero_add] at hr ⊢
    subst hr
    rw [enumD_get', List.getElem?_map] at hd
    have hi : i < T.length := by
      by_cases h : i < T.length
      · exact h
      · rw [List.getElem?_eq_none (by omega)] at hd
        cases hd
    have kl : (keysC T C).length = T.length := by unfold keysC; rw [List.length_map, List.length_range]
    rw [List.getElem?_eq_getElem hi] at hd
    have ed : d = .tup [.int (i : Nat), .lst (nats (nxT T i))] := by
      rw [nxT_at (List.getElem?_eq_getElem hi)]
      rw [Nat.zero_add] at hd
      exact (Option.some.inj hd).symm
    subst ed
    have ki : (keysC T C)[i]? = some (keyC T C i) := by
      unfold keysC
      rw [List.getElem?_map, List.getElem?_range hi]
      rfl
    have tk : (keysC T C).take (i + 1) = (keysC T C).take i ++ [keyC T C i] := by rw [List.take_add_one, ki]; rfl
    obtain ⟨r', h1, h2⟩ := row_turn W n hT hk hn hC m many (dd ((keysC T C).take i)) (((keysC T C).take i).map fun q => (dd (keysC T C)).idxOf q) hi
      (Nat.le_trans (dd_len_le _) (by rw [List.length_take]; omega)) (by rw [List.length_map, List.length_take]; omega)
    refine ⟨r', h1, ?_⟩
    rw [h2, tk, dd_snoc, List.map_append]
    congr 2
    have pf : addK (keyC T C i) (dd ((keysC T C).take i)) <+: dd (keysC T C) := by
      rw [← dd_snoc, ← tk]
      conv => rhs; rw [← List.take_append_drop (i + 1) (keysC T C)]
      unfold dd
      rw [List.foldl_append]
      exact dd_prefix _ _
    rw [List.map_singleton, idxOf_prefix pf (addK_mem'.mpr (.inr rfl))])
  obtain ⟨r', h1, h2⟩ := key
  rw [h1, h2, Nat.zero_add, enumD_len', List.length_map, List.take_of_length_le (by unfold keysC; rw [List.length_map, List.length_range]; exact Nat.le_refl _)]
  rfl

omit hT hk hn in
theorem ne_nat (a b : Nat) : semNe (.int (a : Nat)) (.int (b : Nat)) = some (.val (.bl (!decide (a = b)))) := by
  show some (Out.val (.bl (!decide (((a : Nat) : Int) = (b : Nat))))) = _
  rw [show decide (((a : Nat) : Int) = (b : Nat)) = decide (a = b) from by
    by_cases h : a = b
    · simp [h]
    · have : ¬ ((a : Nat) : Int) = (b : Nat) := by omega
      simp [h, this]]
def sW (T : List (List Nat)) (C : List Nat) (m : Mu) (many : Nat) : Rho := [some ⟨tabD T, .fz⟩, none, some ⟨.lst (nats C), m⟩, some ⟨.int (many : Nat), .fz⟩, none, none, none, none, none, none]
abbrev bodyC : Ss := (.cons (.set 3 (.op1 .lset (.var 2)))
    (.cons (.set 4 (.dct .nil))
    (.cons (.set 5 (.lst .nil))
    (.cons (.for_ (.tup [6, 7]) (.enm (.cons (.var 0) .nil)) inC [1, 6, 7, 8, 9])
    (.cons (.set 2 (.var 5))
    .nil)))))
theorem whl_test {C : List Nat} (hC : C.length = T.length) (m : Mu) (many : Nat) : runT W (.cmp .ne (.var 3) (.op1 .lset (.var 2))) (sW T C m many) = some (!decide (many = (dd C).length), sW T C m many) := by
  have e1 := lset_nats (l := C) (by omega)
  have e2 := ne_nat many (dd C).length
  simp only [sW]
  generalize nats C = z at e1 ⊢
  simp [look, res, sem1, sem2, pre2, e1, e2]
theorem whl_body {C : List Nat} (hC : C.length = T.length) (m : Mu) (many : Nat) : ∃ r', runB W n bodyC (sW T C m many) = some (.next r') ∧ wipeR r' [1, 4, 5, 6, 7, 8, 9] = sW T (finer T C) .fz (dd C).length := by
  refine ⟨[some ⟨tabD T, .fz⟩, none, some ⟨.lst (nats (finer T C)), .fz⟩, some ⟨.int ((dd C).length : Nat), .fz⟩, some ⟨nD tD (dd (keysC T C)), .own⟩, some ⟨.lst (nats (finer T C)), .fz⟩, none, none, none, none], ?_, rfl⟩
  have e1 := lset_nats (l := C) (by omega)
  have s1 : runS W n (.set 3 (.op1 .lset (.var 2))) (sW T C m many) = some (.next (sW T C m (dd C).length)) := by
    simp only [sW]
    generalize nats C = z at e1 ⊢
    simp [look, res, sem1, e1, store]
  refine (runB_next s1).trans ?_
  have s2 : runS W n (.set 4 (.dct .nil)) (sW T C m (dd C).length) = some (.next [some ⟨tabD T, .fz⟩, none, some ⟨.lst (nats C), m⟩, some ⟨.int ((dd C).length : Nat), .fz⟩, some ⟨nD tD [], .own⟩, none, none, none, none, none]) := rfl
  refine (runB_next s2).trans ?_
  have s3 : runS W n (.set 5 (.lst .nil)) [some ⟨tabD T, .fz⟩, none, some ⟨.lst (nats C), m⟩, some ⟨.int ((dd C).length : Nat), .fz⟩, some ⟨nD tD [], .own⟩, none, none, none, none, none] = some (.next (sC T C m (dd C).length [] [])) := rfl
  refine (runB_next s3).trans ?_
  have s4 : runS W n (.for_ (.tup [6, 7]) (.enm (.cons (.var 0) .nil)) inC [1, 6, 7, 8, 9]) (sC T C m (dd C).length [] []) = some (.next (sC T C m (dd C).length (dd (keysC T C)) (finer T C))) := by
    rw [runS_for]
    have hI : runI W (.enm (.cons (.var 0) .nil)) (sC T C m (dd C).length [] []) = some (enumD 0 (T.map fun r => .lst (nats r)), sC T C m (dd C).length [] []) := rfl
    rw [hI]
    exact rows_run W n hT hk hn hC m _
  refine (runB_next s4).trans ?_
  rfl
theorem whl_classes {e : Nat → Bool} (h0 : 0 < T.length) : ∀ (f : Nat) (C : List Nat) (m : Mu) (many : Nat), Good T e C → (many = 0 ∨ (m = .fz ∧ ∃ C0, Good T e C0 ∧ C = finer T C0 ∧ many = (dd C0).length)) → T.length - many + 2 ≤ f →
    ∃ C' many', Told T e C' ∧ whlD (runT W (.cmp .ne (.var 3) (.op1 .lset (.var 2)))) (runB W n bodyC) [1, 4, 5, 6, 7, 8, 9] f (sW T C m many) = some (.next (sW T C' .fz many'))
  | 0, C, m, many, g, hm, hf => by omega
  | f + 1, C, m, many, g, hm, hf => by
    have hC := g.len
    rw [whlD, whl_test W hT hk hn hC]
    have hpos : 0 < (dd C).length := by
      refine List.length_pos_iff.mpr fun z => ?_
      have : at0 C 0 ∈ dd C := (dd_mem _).mpr (by
        unfold at0
        rw [List.getD_eq_getElem?_getD, List.getElem?_eq_getElem (by omega)]
        exact List.getElem_mem _)
      rw [z] at this
      cases this
    by_cases he : many = (dd C).length
    · rw [decide_eq_true he]
      rcases hm with rfl | ⟨rfl, C0, g0, rfl, rfl⟩
      · omega
      · exact ⟨_, _, told_of hT g0 he, rfl⟩
    · rw [decide_eq_false he]
      obtain ⟨r', h1, h2⟩ := whl_body W n hT hk hn hC m many
      simp only [Bool.not_false]
      rw [h1]
      dsimp only
      rw [h2]
      have hlt : many < (dd C).length := by
        rcases hm with rfl | ⟨rfl, C0, g0, rfl, rfl⟩
        · exact hpos
        · have := (card_le g0.len).1
          omega
      have hle : (dd C).length ≤ T.length := by have := dd_len_le C; omega
      exact whl_classes h0 f _ .fz _ (g.finer hT) (.inr ⟨rfl, C, g, rfl, rfl⟩) (by omega)
/-- classes_of -/
theorem classes_run {e : Nat → Bool} {ed : Dat} (h0 : 0 < T.length) (hN : 5000 ≤ n) (hed : ∀ s, s < T.length → semIn (.int (s : Nat)) ed = some (.val (.bl (e s)))) :
    ∃ C, Told T e C ∧ runD W n d_classes_of [tabD T, ed] = some (.val (.lst (nats C)), .non) := by
  let C1 : List Nat := (List.range T.length).map fun s => if e s = true then 1 else 0
  have hC1 : C1.length = T.length := by simp [C1]
  have a1 : ∀ s, s < T.length → at0 C1 s = if e s = true then 1 else 0 := fun s hs => at0_map hs
  have g1 : Good T e C1 := by
    refine ⟨hC1, fun i j hi hj hl => ?_, fun i j hi hj hc => ?_⟩
    · rw [a1 i hi, a1 j hj]
      have : e i = e j := congrFun hl []
      rw [this]
    · rw [a1 i hi, a1 j hj] at hc
      cases h1 : e i <;> cases h2 : e j <;> rw [h1, h2] at hc <;> first | rfl | (exact absurd hc (by decide))
  obtain ⟨C', many', told, hw⟩ := whl_classes W n hT hk hn h0 n C1 .own 0 g1 (.inl rfl) (by omega)
  refine ⟨C', told, ?_⟩
  have s0 : startR d_classes_of [tabD T, ed] = [some ⟨tabD T, .fz⟩, some ⟨ed, .fz⟩, none, none, none, none, none, none, none, none] := rfl
  refine runD_at (r := sW T C' .fz many') (j := 2) rfl ?_ rfl rfl
  rw [s0]
  have s1 : runS W n (.set 2 (.comp [6] (.name 6) (.rng1 (.op1 .len (.var 0))) .no (.op1 .int (.op2 .isIn (.var 6) (.var 1))))) [some ⟨tabD T, .fz⟩, some ⟨ed, .fz⟩, none, none, none, none, none, none, none, none] = some (.next [some ⟨tabD T, .fz⟩, some ⟨ed, .fz⟩, some ⟨.lst (nats C1), .own⟩, none, none, none, none, none, none, none]) := by
    rw [runS_set, run_comp]
    have hI : runI W (.rng1 (.op1 .len (.var 0))) [some ⟨tabD T, .fz⟩, some ⟨ed, .fz⟩, none, none, none, none, none, none, none, none] = some (nats (List.range T.length), [some ⟨tabD T, .fz⟩, some ⟨ed, .fz⟩, none, none, none, none, none, none, none, none]) := by
      have ln : semLen (tabD T) = some (.val (.int (T.length : Nat))) := by
        show some (Out.val (.int (((T.map fun r => Dat.lst (nats r)).length : Nat) : Int))) = _
        rw [List.length_map]
      have sz : T.length ≤ sizeLine := Nat.le_of_lt (big9 (by omega))
      have rd : rangeD 0 T.length = nats (List.range T.length) := by
        unfold rangeD nats
        refine List.map_congr_left fun a _ => ?_
        rw [Int.zero_add]
      rw [runI_rng1]
      generalize tabD T = z at ln ⊢
      simp [look, res, sem1, ln, sz, rd]
    rw [hI]
    show ((compD _ (nats (List.range T.length)) [some ⟨tabD T, .fz⟩, some ⟨ed, .fz⟩, none, none, none, none, none, none, none, none]).bind _).bind _ = _
    rw [compD_nats _ (fun s => .int (((if e s = true then 1 else 0 : Nat) : Nat) : Int)) (List.range T.length) fun s hs => by
      have e2 := hed s (List.mem_range.mp hs)
      cases hes : e s <;> rw [hes] at e2 <;> simp [turnC, bindT, look, res, frz, sem2, sem1, semInt, pre2, e2, wipeR]]
    have : (List.range T.length).map (fun s => Dat.int (((if e s = true then 1 else 0 : Nat) : Nat) : Int)) = nats C1 := by
      unfold nats
      rw [List.map_map]
      rfl
    rw [this]
    rfl
  refine (runB_next s1).trans ?_
  have s2 : runS W n (.set 3 (.int 0)) [some ⟨tabD T, .fz⟩, some ⟨ed, .fz⟩, some ⟨.lst (nats C1), .own⟩, none, none, none, none, none, none, none] = some (.next [some ⟨tabD T, .fz⟩, some ⟨ed, .fz⟩, some ⟨.lst (nats C1), .own⟩, some ⟨.int 0, .fz⟩, none, none, none, none, none, none]) := rfl
  refine (runB_next s2).trans ?_
  refine (runB_next (r' := sW T C' .fz many') ?_).trans ?_
  · rw [runS_whl]
    exact hw
  · rfl
end
end Dm

/-! M3: a search as a loop. -/
namespace Dm
open PySem PySem.Spec PyProof.Rows L2 Dl
section
variable {α κ : Type} [DecidableEq κ] {key : α → κ} {nx : α → List α} {P : α → Prop}
structure SQ (key : α → κ) (P : α → Prop) (ord : List α) : Prop where
  keys : (ord.map key).Nodup
  all : ∀ x ∈ ord, P x
theorem SQ.add {ord : List α} (h : SQ key P ord) {x : α} (hx : P x) : SQ key P (addN key ord x) := ⟨addN_keys x h.keys, fun y hy => by
  rcases addN_mem hy with hy | rfl
  · exact h.all y hy
  · exact hx⟩
theorem SQ.addAll {xs : List α} : ∀ {ord : List α}, SQ key P ord → (∀ x ∈ xs, P x) → SQ key P (addAll key ord xs) := by
  induction xs with
  | nil => exact fun h _ => h
  | cons x xs ih => exact fun h hx => ih (h.add (hx x (List.mem_cons_self ..))) fun y hy => hx y (List.mem_cons_of_mem _ hy)
/-- for x in xs: if it is new, it is put down -/
theorem forD_add {f : Dat → Rho → Option Fl} {wp : List Nat} (enc : α → Dat) (st : List α → Rho) : ∀ (xs : List α), (∀ ord x, x ∈ xs → SQ key P ord → ∃ r', f (enc x) (st ord) = some (.next r') ∧ wipeR r' wp = st (addN key ord x)) → (∀ x ∈ xs, P x) →
    ∀ ord, SQ key P ord → forD f wp (xs.map enc) (st ord) = some (.next (st (addAll key ord xs)))
  | [], _, _, ord, _ => rfl
  | x :: xs, h, hp, ord, q => by
    obtain ⟨r', h1, h2⟩ := h ord x (List.mem_cons_self ..) q
    rw [List.map_cons, forD, h1]
    dsimp only
    rw [h2]
    exact forD_add enc st xs (fun ord y hy => h ord y (List.mem_cons_of_mem _ hy)) (fun y hy => hp y (List.mem_cons_of_mem _ hy)) _ (q.add (hp x (List.mem_cons_self ..)))
structure SI (key : α → κ) (nx : α → List α) (P : α → Prop) (ord : List α) (fo : List (List Nat)) : Prop extends SQ key P ord where
  le : fo.length ≤ ord.length
  rows : fo = (ord.take fo.length).map (rowOf key nx ord)
  done : ∀ (j : Nat) (x : α), j < fo.length → ord[j]? = some x → ∀ y ∈ nx x, key y ∈ ord.map key
theorem rowOf_prefix {o o' : List α} (h : o <+: o') {x : α} (hx : ∀ y ∈ nx x, key y ∈ o.map key) : rowOf key nx o' x = rowOf key nx o x := by
  unfold rowOf
  refine List.map_congr_left fun y hy => ?_
  exact idxOf_prefix (List.IsPrefix.map key h) (hx y hy)
theorem SI.step {ord : List α} {fo : List (List Nat)} (h : SI key nx P ord fo) (hc : ∀ x, P x → ∀ y ∈ nx x, P y) {x : α} (hx : ord[fo.length]? = some x) : SI key nx P (Dm.addAll key ord (nx x)) (fo ++ [rowOf key nx (Dm.addAll key ord (nx x)) x]) := by
  have pr := addAll_prefix (key := key) (nx x) ord
  have hi := (List.getElem?_eq_some_iff.mp hx).1
  have hpl := pr.length_le
  have px := h.all x (List.mem_of_getElem? hx)
  have old : ∀ (j : Nat) (z : α), j < ord.length → (Dm.addAll key ord (nx x))[j]? = some z → ord[j]? = some z := fun j z hj hz => by
    obtain ⟨t, ht⟩ := pr
    rw [← ht, List.getElem?_append_left hj] at hz
    exact hz
  have dn : ∀ (j : Nat) (z : α), j < fo.length + 1 → (Dm.addAll key ord (nx x))[j]? = some z → ∀ y ∈ nx z, key y ∈ (Dm.addAll key ord (nx x)).map key := fun j z hj hz y hy => by
    have hz' := old j z (by omega) hz
    rcases Nat.lt_or_ge j fo.length with h1 | h1
    · exact (List.IsPrefix.map key pr).subset (h.done j z h1 hz' y hy)
    · have : j = fo.length := by omega
      subst this
      rw [hx] at hz'
      cases hz'
      exact addAll_has _ _ y hy
  have hl : (fo ++ [rowOf key nx (Dm.addAll key ord (nx x)) x]).length = fo.length + 1 := by rw [List.length_append, List.length_singleton]
  refine { toSQ := h.toSQ.addAll (hc x px), le := by rw [hl]; omega, rows := ?_, done := by rw [hl]; exact dn }
  rw [hl]
  have tk : (Dm.addAll key ord (nx x)).take (fo.length + 1) = ord.take fo.length ++ [x] := by
    obtain ⟨t, ht⟩ := pr
    rw [← ht, List.take_append_of_le_length (by omega), List.take_add_one, hx]
    rfl
  rw [tk, List.map_append, List.map_singleton]
  congr 1
  refine h.rows.trans (List.map_congr_left fun z hz => ?_)
  obtain ⟨j, hj⟩ := List.mem_iff_getElem?.mp hz
  have hjl : j < fo.length := by
    have := (List.getElem?_eq_some_iff.mp hj).1
    rw [List.length_take] at this
    omega
  rw [List.getElem?_take_of_lt hjl] at hj
  exact (rowOf_prefix pr (h.done j z hjl hj)).symm
/-- while there are things whose rows are not told -/
theorem search {t : Rho → Option (Bool × Rho)} {body : Rho → Option Fl} {wp : List Nat} {N : Nat} (st : List α → List (List Nat) → Rho) (hc : ∀ x, P x → ∀ y ∈ nx x, P y) (hN : ∀ ord, SQ key P ord → ord.length ≤ N)
    (hw : ∀ ord fo, wipeR (st ord fo) wp = st ord fo) (ht : ∀ ord fo, SI key nx P ord fo → t (st ord fo) = some (decide (fo.length < ord.length), st ord fo))
    (hb : ∀ ord fo x, SI key nx P ord fo → ord[fo.length]? = some x → ∃ r', body (st ord fo) = some (.next r') ∧ wipeR r' wp = st (Dm.addAll key ord (nx x)) (fo ++ [rowOf key nx (Dm.addAll key ord (nx x)) x])) :
    ∀ (f : Nat) (ord : List α) (fo : List (List Nat)), SI key nx P ord fo → N + 1 ≤ f + fo.length → whlD t body wp f (st ord fo) = some (.next (st (bfs key nx f fo.length ord) ((bfs key nx f fo.length ord).map (rowOf key nx (bfs key nx f fo.length ord))))) ∧ SI key nx P (bfs key nx f fo.length ord) ((bfs key nx f fo.length ord).map (rowOf key nx (bfs key nx f fo.length ord)))
  | 0, ord, fo, h, hf => by
    have := hN ord h.toSQ
    have := h.le
    omega
  | f + 1, ord, fo, h, hf => by
    rw [whlD, ht ord fo h]
    unfold bfs
    cases e : ord[fo.length]? with
    | none =>
      have hl : ord.length ≤ fo.length := List.getElem?_eq_none_iff.mp e
      have he : fo.length = ord.length := Nat.le_antisymm h.le hl
      rw [decide_eq_false (by omega)]
      dsimp only
      have hr : fo = ord.map (rowOf key nx ord) := by
        have := h.rows
        rw [he, List.take_length] at this
        exact this
      rw [hw, ← hr]
      exact ⟨rfl, h⟩
    | some x =>
      have hi := (List.getElem?_eq_some_iff.mp e).1
      rw [decide_eq_true hi]
      dsimp only
      obtain ⟨r', h1, h2⟩ := hb ord fo x h e
      rw [h1]
      dsimp only
      rw [h2]
      have := search st hc hN hw ht hb f _ _ (h.step hc e) (by rw [List.length_append, List.length_singleton]; omega)
      rw [List.length_append, List.length_singleton] at this
      exact this
end
end Dm

/-! M4: put_in_order. -/
namespace Dm
open PySem PySem.Spec PyProof.Rows L2 Dl
def d_put_in_order : Df := { N := ["letters", "table", "ends", "classes", "numbers", "order", "found", "told", "row", "state", "place"], ps := 3, io := none, body :=
    (.cons (.set 3 (.call "classes_of" (.cons (.var 1) (.cons (.var 2) .nil))))
    (.cons (.set 4 (.dct (.cons (.op2 .at (.var 3) (.int 0)) (.cons (.int 0) .nil))))
    (.cons (.set 5 (.lst (.cons (.int 0) .nil)))
    (.cons (.set 6 (.lst .nil))
    (.cons (.whl (.cmp .lt (.op1 .len (.var 6)) (.op1 .len (.var 5))) (.cons (.set 8 (.op2 .at (.var 1) (.op2 .at (.var 5) (.op1 .len (.var 6)))))
    (.cons (.for_ (.name 9) (.seq (.var 8)) (.cons (.ife (.cmp .notIn (.op2 .at (.var 3) (.var 9)) (.var 4)) (.cons (.setAt 4 (.op2 .at (.var 3) (.var 9)) (.op1 .len (.var 5)))
    (.cons (.expr (.app 5 (.var 9)))
    .nil)) .nil)
    .nil) [7, 9, 10])
    (.cons (.expr (.app 6 (.op1 .tuple (.comp [9] (.name 9) (.seq (.var 8)) .no (.op2 .at (.var 4) (.op2 .at (.var 3) (.var 9)))))))
    .nil))) [7, 8, 9, 10])
    (.cons (.set 7 (.op1 .tuple (.comp [9, 10] (.tup [10, 9]) (.enm (.cons (.var 5) .nil)) (.yes (.cmp .isIn (.var 9) (.var 2))) (.var 10))))
    (.cons (.ret (.tup (.cons (.var 0) (.cons (.op1 .tuple (.var 6)) (.cons (.var 7) .nil)))))
    .nil))))))) }

theorem lt_nat (a b : Nat) : semLt (.int (a : Nat)) (.int (b : Nat)) = some (.val (.bl (decide (a < b)))) := by
  show some (Out.val (.bl (decide (((a : Nat) : Int) < ((b : Nat) : Int))))) = _
  rw [show decide (((a : Nat) : Int) < ((b : Nat) : Int)) = decide (a < b) from by simp]
theorem len_lst {ds : List Dat} {m : Nat} (h : ds.length = m) : semLen (.lst ds) = some (.val (.int (m : Nat))) := by rw [← h]; rfl
abbrev iN : Nat → Dat := fun s => Dat.int (s : Nat)
section
variable (W : Wd) (n : Nat) {k : Nat} {T : List (List Nat)} (hT : Tab k T) (hk : k ≤ 1000) (hn : T.length ≤ 4000) (lt ed : Dat) {C : List Nat} (hC : C.length = T.length)
def sP (T : List (List Nat)) (lt ed : Dat) (C : List Nat) (s8 s9 : Option Sl) (ord : List Nat) (fo : List (List Nat)) : Rho :=
  [some ⟨lt, .fz⟩, some ⟨tabD T, .fz⟩, some ⟨ed, .fz⟩, some ⟨.lst (nats C), .fz⟩, some ⟨nD iN (ord.map (at0 C)), .own⟩, some ⟨.lst (nats ord), .own⟩, some ⟨.lst (fo.map tD), .own⟩, none, s8, s9, none]
abbrev forP : Ss := (.cons (.ife (.cmp .notIn (.op2 .at (.var 3) (.var 9)) (.var 4)) (.cons (.setAt 4 (.op2 .at (.var 3) (.var 9)) (.op1 .len (.var 5)))
    (.cons (.expr (.app 5 (.var 9)))
    .nil)) .nil)
    .nil)
abbrev bodyP : Ss := (.cons (.set 8 (.op2 .at (.var 1) (.op2 .at (.var 5) (.op1 .len (.var 6)))))
    (.cons (.for_ (.name 9) (.seq (.var 8)) forP [7, 9, 10])
    (.cons (.expr (.app 6 (.op1 .tuple (.comp [9] (.name 9) (.seq (.var 8)) .no (.op2 .at (.var 4) (.op2 .at (.var 3) (.var 9)))))))
    .nil)))
abbrev PT (T : List (List Nat)) : Nat → Prop := fun s => s < T.length
include hT hk hn hC
omit hk hC in
theorem sq_le {ord : List Nat} (q : SQ (at0 C) (PT T) ord) : ord.length ≤ T.length := by
  have nd : ord.Nodup := by
    have := q.keys
    unfold List.Nodup at this ⊢
    rw [List.pairwise_map] at this
    exact this.imp fun h z => h (by rw [z])
  have := nodup_le (m := List.range T.length) nd fun a ha => List.mem_range.mpr (q.all a ha)
  rw [List.length_range] at this
  exact this
theorem forP_turn (s8 : Option Sl) (fo : List (List Nat)) (ord : List Nat) {x : Nat} (hx : x < T.length) (q : SQ (at0 C) (PT T) ord) :
    ∃ r', stepF W n (.name 9) forP (iN x) (sP T lt ed C s8 none ord fo) = some (.next r') ∧ wipeR r' [7, 9, 10] = sP T lt ed C s8 none (addN (at0 C) ord x) fo := by
  have e1 : semAt (.lst (nats C)) (.int (x : Nat)) = some (.val (.int (at0 C x : Nat))) := at_nats (by omega)
  have e2 : semNotIn (.int (at0 C x : Nat)) (nD iN (ord.map (at0 C))) = some (.val (.bl (!decide (at0 C x ∈ ord.map (at0 C))))) := notIn_enc encN_ok (at0 C x) _ _
  have lo := sq_le hT hn q
  refine ⟨sP T lt ed C s8 (some ⟨iN x, .fz⟩) (addN (at0 C) ord x) fo, ?_, rfl⟩
  show runB W n forP (sP T lt ed C s8 (some ⟨iN x, .fz⟩) ord fo) = _
  have tt : runT W (.cmp .notIn (.op2 .at (.var 3) (.var 9)) (.var 4)) (sP T lt ed C s8 (some ⟨iN x, .fz⟩) ord fo) = some (!decide (at0 C x ∈ ord.map (at0 C)), sP T lt ed C s8 (some ⟨iN x, .fz⟩) ord fo) := by
    simp only [sP]
    generalize nD iN (ord.map (at0 C)) = z at e2 ⊢
    generalize nats C = y at e1 ⊢
    simp [look, res, sem2, pre2, e1, e2]
  refine (runB_next (r' := sP T lt ed C s8 (some ⟨iN x, .fz⟩) (addN (at0 C) ord x) fo) ?_).trans (by rw [runB_nil])
  rw [runS_ife, tt]
  unfold addN
  by_cases hm : at0 C x ∈ ord.map (at0 C)
  · rw [decide_eq_true hm, if_pos hm]
    rfl
  · rw [decide_eq_false hm, if_neg hm]
    show runB W n _ (sP T lt ed C s8 (some ⟨iN x, .fz⟩) ord fo) = _
    have okk : okey ((ord.map (at0 C)).map iN) (.int (at0 C x : Nat)) = true := encN_ok.ok _ (at0 C x)
    have lks : ((ord.map (at0 C)).map iN).length < sizeLine := by rw [List.length_map, List.length_map]; exact big9 (by omega)
    have pn : putD (.int (at0 C x : Nat)) (.int (ord.length : Nat)) ((ord.map (at0 C)).map iN) (nats (List.range (ord.map (at0 C)).length)) = nD iN ((ord ++ [x]).map (at0 C)) := by
      have := put_n encN_ok hm
      rw [List.map_append]
      rw [List.length_map] at this ⊢
      exact this
    have ln : semLen (.lst (nats ord)) = some (.val (.int (ord.length : Nat))) := len_lst (nats_len ord)
    let sm : Rho := [some ⟨lt, .fz⟩, some ⟨tabD T, .fz⟩, some ⟨ed, .fz⟩, some ⟨.lst (nats C), .fz⟩, some ⟨nD iN ((ord ++ [x]).map (at0 C)), .own⟩, some ⟨.lst (nats ord), .own⟩, some ⟨.lst (fo.map tD), .own⟩, none, s8, some ⟨iN x, .fz⟩, none]
    have s1 : runS W n (.setAt 4 (.op2 .at (.var 3) (.var 9)) (.op1 .len (.var 5))) (sP T lt ed C s8 (some ⟨iN x, .fz⟩) ord fo) = some (.next sm) := by
      rw [runS_setAt]
      have h1 : Dl.run W (.op1 .len (.var 5)) (sP T lt ed C s8 (some ⟨iN x, .fz⟩) ord fo) = some (.val (.int (ord.length : Nat)), sP T lt ed C s8 (some ⟨iN x, .fz⟩) ord fo) := by
        simp only [sP]
        generalize Dat.lst (nats ord) = z at ln ⊢
        simp [look, res, sem1, ln]
      have h2 : Dl.run W (.op2 .at (.var 3) (.var 9)) (sP T lt ed C s8 (some ⟨iN x, .fz⟩) ord fo) = some (.val (.int (at0 C x : Nat)), sP T lt ed C s8 (some ⟨iN x, .fz⟩) ord fo) := by
        simp only [sP]
        generalize nats C = y at e1 ⊢
        simp [look, res, sem2, pre2, e1]
      have h0 : look (sP T lt ed C s8 (some ⟨iN x, .fz⟩) ord fo) 4 = some ⟨nD iN (ord.map (at0 C)), .own⟩ := rfl
      rw [h1]
      simp only [Option.bind_some, frz]
      rw [h0]
      simp only [Option.bind_some]
      rw [h2]
      simp only [Option.bind_some, res]
      rw [h0]
      unfold nD
      dsimp only
      rw [if_pos ⟨okk, lks⟩, pn]
      rfl
    refine (runB_next s1).trans ?_
    refine (runB_next (r' := sP T lt ed C s8 (some ⟨iN x, .fz⟩) (ord ++ [x]) fo) ?_).trans (by rw [runB_nil])
    have l5 : (nats ord).length < sizeLine := by rw [nats_len]; exact big9 (by omega)
    have na : nats (ord ++ [x]) = nats ord ++ [.int (x : Nat)] := nats_app _ _
    rw [runS_expr, run_app]
    simp only [sm, sP]
    rw [na]
    simp [look, res, frz, isLst, l5]
theorem bodyP_turn (ord : List Nat) (fo : List (List Nat)) {x : Nat} (q : SI (at0 C) (nxT T) (PT T) ord fo) (hx : ord[fo.length]? = some x) :
    ∃ r', runB W n bodyP (sP T lt ed C none none ord fo) = some (.next r') ∧ wipeR r' [7, 8, 9, 10] = sP T lt ed C none none (addAll (at0 C) ord (nxT T x)) (fo ++ [rowOf (at0 C) (nxT T) (addAll (at0 C) ord (nxT T x)) x]) := by
  have px : x < T.length := q.all x (List.mem_of_getElem? hx)
  have hc : ∀ s, PT T s → ∀ y ∈ nxT T s, PT T y := fun s hs y hy => hT.nxlow hs hy
  have q2 := q.toSQ.addAll (hc x px)
  have lo2 := sq_le hT hn q2
  have lf : fo.length < 4000 := by
    have := sq_le hT hn q.toSQ
    have := (List.getElem?_eq_some_iff.mp hx).1
    omega
  generalize hO : addAll (at0 C) ord (nxT T x) = ord' at q2 lo2
  have row : rowOf (at0 C) (nxT T) ord' x = (nxT T x).map fun y => (ord'.map (at0 C)).idxOf (at0 C y) := rfl
  refine ⟨sP T lt ed C (some ⟨.lst (nats (nxT T x)), .fz⟩) none ord' (fo ++ [rowOf (at0 C) (nxT T) ord' x]), ?_, rfl⟩
  have s1 : runS W n (.set 8 (.op2 .at (.var 1) (.op2 .at (.var 5) (.op1 .len (.var 6))))) (sP T lt ed C none none ord fo) = some (.next (sP T lt ed C (some ⟨.lst (nats (nxT T x)), .fz⟩) none ord fo)) := by
    have e1 : semLen (.lst (fo.map tD)) = some (.val (.int (fo.length : Nat))) := len_lst (List.length_map ..)
    have e2 : semAt (.lst (nats ord)) (.int (fo.length : Nat)) = some (.val (.int (x : Nat))) := at_lst (by unfold nats; rw [List.getElem?_map, hx]; rfl)
    have e3 : semAt (tabD T) (.int (x : Nat)) = some (.val (.lst (nats (nxT T x)))) := at_lst (by
      rw [List.getElem?_map, List.getElem?_eq_getElem px, nxT_at (List.getElem?_eq_getElem px)]
      rfl)
    simp only [sP]
    generalize tabD T = z1 at e3 ⊢
    generalize Dat.lst (nats ord) = z2 at e2 ⊢
    generalize Dat.lst (fo.map tD) = z3 at e1 ⊢
    simp [look, res, sem1, sem2, pre2, e1, e2, e3, store]
  refine (runB_next s1).trans ?_
  have s2 : runS W n (.for_ (.name 9) (.seq (.var 8)) forP [7, 9, 10]) (sP T lt ed C (some ⟨.lst (nats (nxT T x)), .fz⟩) none ord fo) = some (.next (sP T lt ed C (some ⟨.lst (nats (nxT T x)), .fz⟩) none ord' fo)) := by
    rw [runS_for]
    have hI : runI W (.seq (.var 8)) (sP T lt ed C (some ⟨.lst (nats (nxT T x)), .fz⟩) none ord fo) = some (nats (nxT T x), sP T lt ed C (some ⟨.lst (nats (nxT T x)), .fz⟩) none ord fo) := rfl
    rw [hI]
    have := forD_add (key := at0 C) (P := PT T) (f := stepF W n (.name 9) forP) (wp := [7, 9, 10]) iN (fun o => sP T lt ed C (some ⟨.lst (nats (nxT T x)), .fz⟩) none o fo) (nxT T x) (fun o y hy qo => forP_turn W n hT hk hn lt ed hC _ fo o (hc x px y hy) qo) (hc x px) ord q.toSQ
    rw [hO] at this
    exact this
  refine (runB_next s2).trans ?_
  have cp : Dl.run W (.comp [9] (.name 9) (.seq (.var 8)) .no (.op2 .at (.var 4) (.op2 .at (.var 3) (.var 9)))) (sP T lt ed C (some ⟨.lst (nats (nxT T x)), .fz⟩) none ord' fo) = some (.fresh (.lst (nats (rowOf (at0 C) (nxT T) ord' x))), sP T lt ed C (some ⟨.lst (nats (nxT T x)), .fz⟩) none ord' fo) := by
    rw [run_comp]
    have hI : runI W (.seq (.var 8)) (sP T lt ed C (some ⟨.lst (nats (nxT T x)), .fz⟩) none ord' fo) = some (nats (nxT T x), sP T lt ed C (some ⟨.lst (nats (nxT T x)), .fz⟩) none ord' fo) := rfl
    rw [hI]
    show (compD _ (nats (nxT T x)) (sP T lt ed C (some ⟨.lst (nats (nxT T x)), .fz⟩) none ord' fo)).bind _ = _
    rw [compD_nats (sP T lt ed C (some ⟨.lst (nats (nxT T x)), .fz⟩) none ord' fo) (fun y => .int ((ord'.map (at0 C)).idxOf (at0 C y) : Nat)) (nxT T x) fun y hy => by
      have py : y < T.length := hc x px y hy
      have e2 : semAt (.lst (nats C)) (.int (y : Nat)) = some (.val (.int (at0 C y : Nat))) := at_nats (by omega)
      have hm : at0 C y ∈ ord'.map (at0 C) := by rw [← hO]; exact addAll_has _ _ y hy
      have e3 : semAt (nD iN (ord'.map (at0 C))) (.int (at0 C y : Nat)) = some (.val (.int ((ord'.map (at0 C)).idxOf (at0 C y) : Nat))) := at_n encN_ok hm
      simp only [sP]
      generalize nats C = z at e2 ⊢
      generalize nD iN (ord'.map (at0 C)) = z2 at e3 ⊢
      simp [turnC, bindT, look, res, frz, sem2, pre2, e2, e3, wipeR]]
    rw [row]
    unfold nats
    rw [List.map_map]
    rfl
  refine (runB_next (r' := sP T lt ed C (some ⟨.lst (nats (nxT T x)), .fz⟩) none ord' (fo ++ [rowOf (at0 C) (nxT T) ord' x])) ?_).trans (by rw [runB_nil])
  rw [runS_expr, run_app]
  have h0 : ∀ f, look (sP T lt ed C (some ⟨.lst (nats (nxT T x)), .fz⟩) none ord' f) 6 = some ⟨.lst (f.map tD), .own⟩ := fun _ => rfl
  rw [h0]
  simp only [Option.bind_some, isLst, if_true]
  rw [run_op1, cp]
  simp only [Option.bind_some, res, sem1, semTuple, frz]
  rw [h0]
  dsimp only
  rw [if_pos (by rw [List.length_map]; exact big9 (by omega))]
  simp only [Option.bind_some, sP]
  rw [List.map_append]
  rfl
end
end Dm

/-! M5: put_in_order, the whole. -/
namespace Dm
open PySem PySem.Spec PyProof.Rows L2 Dl
theorem compD_fm {f : Dat → Rho → Option (Option Dat × Rho)} (st : Rho) (g : Dat → Option Dat) : ∀ (ds : List Dat), (∀ d, d ∈ ds → f d st = some (g d, st)) → compD f ds st = some (ds.filterMap g, st)
  | [], _ => rfl
  | d :: ds, hs => by
    rw [compD, hs d List.mem_cons_self]
    show (compD f ds st).bind _ = _
    rw [compD_fm st g ds fun e he => hs e (List.mem_cons_of_mem _ he), List.filterMap_cons]
    cases g d <;> rfl
def gE (e : Nat → Bool) : Dat → Option Dat
  | .tup [.int j, .int s] => if e s.toNat = true then some (.int j) else none
  | _ => none
theorem enum_filter (e : Nat → Bool) : ∀ (O : List Nat) (a : Nat), (enumD a (nats O)).filterMap (gE e) = ((List.range' a O.length).filter fun j => eO O e (j - a)).map iN
  | [], a => rfl
  | s :: O, a => by
    show (Dat.tup [.int (a : Nat), .int (s : Nat)] :: enumD (a + 1) (nats O)).filterMap (gE e) = _
    rw [List.filterMap_cons, List.length_cons, List.range'_succ, List.filter_cons]
    have h1 : eO (s :: O) e (a - a) = e s := by rw [Nat.sub_self]; rfl
    have h2 : (List.range' (a + 1) O.length).filter (fun j => eO (s :: O) e (j - a)) = (List.range' (a + 1) O.length).filter fun j => eO O e (j - (a + 1)) := by
      refine List.filter_congr fun j hj => ?_
      have := (List.mem_range'_1.mp hj).1
      rw [show j - a = (j - (a + 1)) + 1 by omega]
      rfl
    rw [h1, h2, enum_filter e O (a + 1)]
    have g1 : gE e (.tup [.int (a : Nat), .int (s : Nat)]) = if e s = true then some (.int (a : Nat)) else none := rfl
    rw [g1]
    by_cases h : e s = true
    · rw [if_pos h, if_pos h]
      rfl
    · rw [if_neg h, if_neg h]
theorem enum_ends (e : Nat → Bool) (O : List Nat) : (enumD 0 (nats O)).filterMap (gE e) = nats ((List.range O.length).filter (eO O e)) := by
  rw [enum_filter, ← List.range_eq_range']
  rfl
/-- a machine as data -/
def mD (lt : Dat) (T : List (List Nat)) (es : List Nat) : Dat := .tup [lt, .tup (T.map tD), .tup (nats es)]
noncomputable def cD (n k : Nat) (lt : Dat) (L : Lg) : Dat := mD lt (cTab n k L) (cEnds n k L)
def HasClasses (W : Wd) (n : Nat) : Prop := W.io "classes_of" = some none ∧ ∃ W', ∀ ds, W.phi "classes_of" ds = runD W' n d_classes_of ds
theorem order_run {W : Wd} {n : Nat} (hW : HasClasses W n) {k : Nat} {T : List (List Nat)} (hT : Tab k T) (hk : k ≤ 1000) (hn : T.length ≤ 4000) (h0 : 0 < T.length) (hN : 5000 ≤ n) (lt : Dat) {ed : Dat} {e : Nat → Bool}
    (hed : ∀ s, s < T.length → semIn (.int (s : Nat)) ed = some (.val (.bl (e s)))) : runD W n d_put_in_order [lt, tabD T, ed] = some (.val (cD n k lt (lg (nxT T) e 0)), .non) := by
  obtain ⟨io, W', hp⟩ := hW
  obtain ⟨C, told, hc⟩ := classes_run W' n hT hk hn h0 hN hed
  have hC := told.1
  have clo : ∀ s, PT T s → ∀ y ∈ nxT T s, PT T y := fun s hs y hy => hT.nxlow hs hy
  have cn := canon_of (key := at0 C) (nx := nxT T) (e := e) (P := PT T) (k := k) (n := n) (b := 0) h0 clo (fun s hs => hT.nxlen hs) fun x y hx hy => told.2 x y hx hy
  have se := search (key := at0 C) (nx := nxT T) (P := PT T) (N := T.length) (t := runT W (.cmp .lt (.op1 .len (.var 6)) (.op1 .len (.var 5)))) (body := runB W n bodyP) (wp := [7, 8, 9, 10]) (sP T lt ed C none none) clo (fun ord q => sq_le hT hn q) (fun _ _ => rfl)
    (fun ord fo q => by
      have e1 : semLen (.lst (fo.map tD)) = some (.val (.int (fo.length : Nat))) := len_lst (List.length_map ..)
      have e2 : semLen (.lst (nats ord)) = some (.val (.int (ord.length : Nat))) := len_lst (nats_len ord)
      have e3 := lt_nat fo.length ord.length
      simp only [sP]
      generalize Dat.lst (nats ord) = z2 at e2 ⊢
      generalize Dat.lst (fo.map tD) = z3 at e1 ⊢
      simp [look, res, sem1, sem2, pre2, e1, e2, e3])
    (fun ord fo x q hx => bodyP_turn W n hT hk hn lt ed hC ord fo q hx) n [0] [] { keys := by simp, all := fun x hx => by rw [List.mem_singleton.mp hx]; exact h0, le := Nat.zero_le _, rows := rfl, done := fun j x hj => by cases hj } (by show _ ≤ n + 0; omega)
  obtain ⟨hw, si⟩ := se
  rw [List.length_nil] at hw si
  generalize hO : bfs (at0 C) (nxT T) n 0 [0] = O at hw si cn
  refine runD_val (r := [some ⟨lt, .fz⟩, some ⟨tabD T, .fz⟩, some ⟨ed, .fz⟩, some ⟨.lst (nats C), .fz⟩, some ⟨nD iN (O.map (at0 C)), .own⟩, some ⟨.lst (nats O), .fz⟩, some ⟨.lst ((O.map (rowOf (at0 C) (nxT T) O)).map tD), .own⟩, some ⟨.tup (nats ((List.range O.length).filter (eO O e))), .fz⟩, none, none, none]) rfl ?_ rfl
  show runB W n _ [some ⟨lt, .fz⟩, some ⟨tabD T, .fz⟩, some ⟨ed, .fz⟩, none, none, none, none, none, none, none, none] = _
  have s1 : runS W n (.set 3 (.call "classes_of" (.cons (.var 1) (.cons (.var 2) .nil)))) [some ⟨lt, .fz⟩, some ⟨tabD T, .fz⟩, some ⟨ed, .fz⟩, none, none, none, none, none, none, none, none] = some (.next [some ⟨lt, .fz⟩, some ⟨tabD T, .fz⟩, some ⟨ed, .fz⟩, some ⟨.lst (nats C), .fz⟩, none, none, none, none, none, none, none]) := by
    rw [← hp] at hc
    generalize tabD T = z at hc ⊢
    simp [run_call, io, look, frz, res, resAll, hc, giveBack, store]
  refine (runB_next s1).trans ?_
  have s2 : runS W n (.set 4 (.dct (.cons (.op2 .at (.var 3) (.int 0)) (.cons (.int 0) .nil)))) [some ⟨lt, .fz⟩, some ⟨tabD T, .fz⟩, some ⟨ed, .fz⟩, some ⟨.lst (nats C), .fz⟩, none, none, none, none, none, none, none] = some (.next [some ⟨lt, .fz⟩, some ⟨tabD T, .fz⟩, some ⟨ed, .fz⟩, some ⟨.lst (nats C), .fz⟩, some ⟨nD iN ([0].map (at0 C)), .own⟩, none, none, none, none, none, none]) := by
    have e1 : semAt (.lst (nats C)) (.int (0 : Nat)) = some (.val (.int (at0 C 0 : Nat))) := at_nats (by omega)
    have e1 : semAt (.lst (nats C)) (.int 0) = some (.val (.int (at0 C 0 : Nat))) := e1
    have mk : mkD [.int (at0 C 0 : Nat), .int 0] [] [] = some (nD iN ([0].map (at0 C))) := rfl
    generalize nats C = z at e1 ⊢
    simp [look, frz, res, sem2, pre2, e1, store, mk]
  refine (runB_next s2).trans ?_
  have s3 : runS W n (.set 5 (.lst (.cons (.int 0) .nil))) [some ⟨lt, .fz⟩, some ⟨tabD T, .fz⟩, some ⟨ed, .fz⟩, some ⟨.lst (nats C), .fz⟩, some ⟨nD iN ([0].map (at0 C)), .own⟩, none, none, none, none, none, none] = some (.next [some ⟨lt, .fz⟩, some ⟨tabD T, .fz⟩, some ⟨ed, .fz⟩, some ⟨.lst (nats C), .fz⟩, some ⟨nD iN ([0].map (at0 C)), .own⟩, some ⟨.lst (nats [0]), .own⟩, none, none, none, none, none]) := rfl
  refine (runB_next s3).trans ?_
  have s4 : runS W n (.set 6 (.lst .nil)) [some ⟨lt, .fz⟩, some ⟨tabD T, .fz⟩, some ⟨ed, .fz⟩, some ⟨.lst (nats C), .fz⟩, some ⟨nD iN ([0].map (at0 C)), .own⟩, some ⟨.lst (nats [0]), .own⟩, none, none, none, none, none] = some (.next (sP T lt ed C none none [0] [])) := rfl
  refine (runB_next s4).trans ?_
  refine (runB_next (r' := sP T lt ed C none none O (O.map (rowOf (at0 C) (nxT T) O))) ?_).trans ?_
  · rw [runS_whl]
    exact hw
  have s6 : runS W n (.set 7 (.op1 .tuple (.comp [9, 10] (.tup [10, 9]) (.enm (.cons (.var 5) .nil)) (.yes (.cmp .isIn (.var 9) (.var 2))) (.var 10)))) (sP T lt ed C none none O (O.map (rowOf (at0 C) (nxT T) O))) = some (.next [some ⟨lt, .fz⟩, some ⟨tabD T, .fz⟩, some ⟨ed, .fz⟩, some ⟨.lst (nats C), .fz⟩, some ⟨nD iN (O.map (at0 C)), .own⟩, some ⟨.lst (nats O), .fz⟩, some ⟨.lst ((O.map (rowOf (at0 C) (nxT T) O)).map tD), .own⟩, some ⟨.tup (nats ((List.range O.length).filter (eO O e))), .fz⟩, none, none, none]) := by
    rw [runS_set, run_op1, run_comp]
    let sr : Rho := [some ⟨lt, .fz⟩, some ⟨tabD T, .fz⟩, some ⟨ed, .fz⟩, some ⟨.lst (nats C), .fz⟩, some ⟨nD iN (O.map (at0 C)), .own⟩, some ⟨.lst (nats O), .fz⟩, some ⟨.lst ((O.map (rowOf (at0 C) (nxT T) O)).map tD), .own⟩, none, none, none, none]
    have hI : runI W (.enm (.cons (.var 5) .nil)) (sP T lt ed C none none O (O.map (rowOf (at0 C) (nxT T) O))) = some (enumD 0 (nats O), sr) := rfl
    rw [hI]
    show (((compD _ (enumD 0 (nats O)) sr).bind _).bind _).bind _ = _
    rw [compD_fm sr (gE e) (enumD 0 (nats O)) fun d hd => by
      obtain ⟨j, hj⟩ := List.mem_iff_getElem?.mp hd
      rw [enumD_get'] at hj
      unfold nats at hj
      rw [List.getElem?_map] at hj
      cases hs : O[j]? with
      | none => rw [hs] at hj; cases hj
      | some s =>
        rw [hs] at hj
        have hj : some (Dat.tup [.int ((0 + j : Nat) : Int), .int (s : Nat)]) = some d := hj
        rw [Nat.zero_add] at hj
        cases hj
        have e2 := hed s (si.all s (List.mem_of_getElem? hs))
        have g1 : gE e (.tup [.int (j : Nat), .int (s : Nat)]) = if e s = true then some (.int (j : Nat)) else none := rfl
        rw [g1]
        simp only [sr]
        cases hes : e s <;> rw [hes] at e2 <;> simp [turnC, bindT, Dl.putAll, look, res, frz, sem2, pre2, e2, wipeR]]
    rw [enum_ends]
    rfl
  refine (runB_next s6).trans ?_
  have c1 : O.map (rowOf (at0 C) (nxT T) O) = cTab n k (lg (nxT T) e 0) := cn.1
  have c2 : (List.range O.length).filter (eO O e) = cEnds n k (lg (nxT T) e 0) := cn.2
  unfold cD mD
  rw [← c1, ← c2]
  rfl
end Dm

/-! M6: least_by. -/
namespace Dm
open PySem PySem.Spec PyProof.Rows L2 Dl
def d_least_by : Df := { N := ["letters", "begin", "rows", "numbers", "order", "table", "ends", "thing", "ends_here", "nexts", "state"], ps := 3, io := none, kd := 1, body :=
    (.cons (.set 3 (.dct (.cons (.var 1) (.cons (.int 0) .nil))))
    (.cons (.set 4 (.lst (.cons (.var 1) .nil)))
    (.cons (.set 5 (.lst .nil))
    (.cons (.set 6 (.lst .nil))
    (.cons (.whl (.cmp .lt (.op1 .len (.var 5)) (.op1 .len (.var 4))) (.cons (.unp [8, 9] (.callF 2 (.cons (.op2 .at (.var 4) (.op1 .len (.var 5))) .nil)))
    (.cons (.ife (.val (.var 8)) (.cons (.expr (.app 6 (.op1 .len (.var 5))))
    .nil) .nil)
    (.cons (.for_ (.name 7) (.seq (.var 9)) (.cons (.ife (.cmp .notIn (.var 7) (.var 3)) (.cons (.setAt 3 (.var 7) (.op1 .len (.var 4)))
    (.cons (.expr (.app 4 (.var 7)))
    .nil)) .nil)
    .nil) [1, 7, 8, 10])
    (.cons (.expr (.app 5 (.comp [7] (.name 7) (.seq (.var 9)) .no (.op2 .at (.var 3) (.var 7)))))
    .nil)))) [1, 7, 8, 9, 10])
    (.cons (.ret (.call "put_in_order" (.cons (.var 0) (.cons (.var 5) (.cons (.op1 .dctP (.comp [10] (.name 10) (.seq (.var 6)) .no (.tup (.cons (.var 10) (.cons (.bl true) .nil))))) .nil)))))
    .nil)))))) }
theorem run_callF {W : Wd} {r : Rho} (i : Nat) (es : Es) {c : Nat} {env : List Dat} (h : look r i = some ⟨.fn c env, .fz⟩) : Dl.run W (.callF i es) r = (runA W es none r).bind fun p => (resAll p.2 p.1).bind fun ds => if noFns ds = true then (W.phi (cloKey c) (ds ++ env)).bind fun z => plainO p.2 z else none := by
  rw [Dl.run, h]
  rfl
def lD (r : List Nat) : Dat := .lst (nats r)
section
variable (W : Wd) (n : Nat) {α : Type} [DecidableEq α] {enc : α → Dat} (he : Enc enc) {nx : α → List α} {e : α → Bool} {P : α → Prop} {U : List α} (hc : ∀ x, P x → ∀ y ∈ nx x, P y) (hU : ∀ x, P x → x ∈ U) (lU : U.length ≤ 4000)
  (lt : Dat) {c : Nat} {env : List Dat}
def sL (enc : α → Dat) (e : α → Bool) (lt : Dat) (c : Nat) (env : List Dat) (s7 s8 s9 : Option Sl) (ord : List α) (fo : List (List Nat)) (es : List Nat) : Rho :=
  [some ⟨lt, .fz⟩, none, some ⟨.fn c env, .fz⟩, some ⟨nD enc ord, .own⟩, some ⟨.lst (ord.map enc), .own⟩, some ⟨.lst (fo.map lD), .own⟩, some ⟨.lst (nats es), .own⟩, s7, s8, s9, none]
abbrev forL : Ss := (.cons (.ife (.cmp .notIn (.var 7) (.var 3)) (.cons (.setAt 3 (.var 7) (.op1 .len (.var 4)))
    (.cons (.expr (.app 4 (.var 7)))
    .nil)) .nil)
    .nil)
abbrev bodyL : Ss := (.cons (.unp [8, 9] (.callF 2 (.cons (.op2 .at (.var 4) (.op1 .len (.var 5))) .nil)))
    (.cons (.ife (.val (.var 8)) (.cons (.expr (.app 6 (.op1 .len (.var 5))))
    .nil) .nil)
    (.cons (.for_ (.name 7) (.seq (.var 9)) forL [1, 7, 8, 10])
    (.cons (.expr (.app 5 (.comp [7] (.name 7) (.seq (.var 9)) .no (.op2 .at (.var 3) (.var 7)))))
    .nil))))
include he hc hU lU
omit he hc in
theorem sqL_le {ord : List α} (q : SQ id P ord) : ord.length ≤ 4000 := by
  have nd : ord.Nodup := by have := q.keys; rw [List.map_id] at this; exact this
  exact Nat.le_trans (nodup_le nd fun x hx => hU x (q.all x hx)) lU
theorem forL_turn (s8 s9 : Option Sl) (fo : List (List Nat)) (es : List Nat) (ord : List α) {x : α} (hx : P x) (q : SQ id P ord) :
    ∃ r', stepF W n (.name 7) forL (enc x) (sL enc e lt c env none s8 s9 ord fo es) = some (.next r') ∧ wipeR r' [1, 7, 8, 10] = sL enc e lt c env none none s9 (addN id ord x) fo es := by
  have e2 : semNotIn (enc x) (nD enc ord) = some (.val (.bl (!decide (x ∈ ord)))) := notIn_enc he x _ _
  have lo := sqL_le hU lU q
  refine ⟨sL enc e lt c env (some ⟨enc x, .fz⟩) s8 s9 (addN id ord x) fo es, ?_, rfl⟩
  show runB W n forL (sL enc e lt c env (some ⟨enc x, .fz⟩) s8 s9 ord fo es) = _
  have tt : runT W (.cmp .notIn (.var 7) (.var 3)) (sL enc e lt c env (some ⟨enc x, .fz⟩) s8 s9 ord fo es) = some (!decide (x ∈ ord), sL enc e lt c env (some ⟨enc x, .fz⟩) s8 s9 ord fo es) := by
    simp only [sL]
    generalize nD enc ord = z at e2 ⊢
    simp [look, res, sem2, pre2, e2]
  refine (runB_next (r' := sL enc e lt c env (some ⟨enc x, .fz⟩) s8 s9 (addN id ord x) fo es) ?_).trans (by rw [runB_nil])
  rw [runS_ife, tt]
  unfold addN
  rw [List.map_id]
  by_cases hm : x ∈ ord
  · rw [decide_eq_true hm, if_pos (show id x ∈ ord from hm)]
    rfl
  · rw [decide_eq_false hm, if_neg (show ¬ id x ∈ ord from hm)]
    show runB W n _ (sL enc e lt c env (some ⟨enc x, .fz⟩) s8 s9 ord fo es) = _
    have okk : okey (ord.map enc) (enc x) = true := he.ok _ x
    have lks : (ord.map enc).length < sizeLine := by rw [List.length_map]; exact big9 (by omega)
    have pn := put_n he hm
    have ln : semLen (.lst (ord.map enc)) = some (.val (.int (ord.length : Nat))) := len_lst (List.length_map ..)
    let sm : Rho := [some ⟨lt, .fz⟩, none, some ⟨.fn c env, .fz⟩, some ⟨nD enc (ord ++ [x]), .own⟩, some ⟨.lst (ord.map enc), .own⟩, some ⟨.lst (fo.map lD), .own⟩, some ⟨.lst (nats es), .own⟩, some ⟨enc x, .fz⟩, s8, s9, none]
    have s1 : runS W n (.setAt 3 (.var 7) (.op1 .len (.var 4))) (sL enc e lt c env (some ⟨enc x, .fz⟩) s8 s9 ord fo es) = some (.next sm) := by
      rw [runS_setAt]
      have h1 : Dl.run W (.op1 .len (.var 4)) (sL enc e lt c env (some ⟨enc x, .fz⟩) s8 s9 ord fo es) = some (.val (.int (ord.length : Nat)), sL enc e lt c env (some ⟨enc x, .fz⟩) s8 s9 ord fo es) := by
        simp only [sL]
        generalize Dat.lst (ord.map enc) = z at ln ⊢
        simp [look, res, sem1, ln]
      have h2 : Dl.run W (.var 7) (sL enc e lt c env (some ⟨enc x, .fz⟩) s8 s9 ord fo es) = some (.place 7, sL enc e lt c env (some ⟨enc x, .fz⟩) s8 s9 ord fo es) := rfl
      have h7 : res (sL enc e lt c env (some ⟨enc x, .fz⟩) s8 s9 ord fo es) (.place 7) = some (enc x) := rfl
      have h0 : look (sL enc e lt c env (some ⟨enc x, .fz⟩) s8 s9 ord fo es) 3 = some ⟨nD enc ord, .own⟩ := rfl
      rw [h1]
      simp only [Option.bind_some, frz]
      rw [h0]
      simp only [Option.bind_some]
      rw [h2]
      simp only [Option.bind_some]
      rw [h7, h0]
      unfold nD
      have : (match (some ⟨Dat.dct (ord.map enc) (nats (List.range ord.length)), .own⟩ : Option Sl), (some (enc x) : Option Dat) with
        | some ⟨.lst ds, .own⟩, some (.int k) => (ixN ds.length k).bind fun j => some (Fl.next ((sL enc e lt c env (some ⟨enc x, .fz⟩) s8 s9 ord fo es).set 3 (some ⟨.lst (ds.set j (.int (ord.length : Nat))), .own⟩)))
        | some ⟨.lst ds, .io⟩, some (.int k) => (ixN ds.length k).bind fun j => some (Fl.next ((sL enc e lt c env (some ⟨enc x, .fz⟩) s8 s9 ord fo es).set 3 (some ⟨.lst (ds.set j (.int (ord.length : Nat))), .io⟩)))
        | some ⟨.dct ks vs, .own⟩, some k => if okey ks k = true ∧ ks.length < sizeLine then some (Fl.next ((sL enc e lt c env (some ⟨enc x, .fz⟩) s8 s9 ord fo es).set 3 (some ⟨putD k (.int (ord.length : Nat)) ks vs, .own⟩))) else none
        | some ⟨.dct ks vs, .io⟩, some k => if okey ks k = true ∧ ks.length < sizeLine then some (Fl.next ((sL enc e lt c env (some ⟨enc x, .fz⟩) s8 s9 ord fo es).set 3 (some ⟨putD k (.int (ord.length : Nat)) ks vs, .io⟩))) else none
        | _, _ => none) = some (.next sm) := by
        have hk : (if okey (ord.map enc) (enc x) = true ∧ (ord.map enc).length < sizeLine then some (Fl.next ((sL enc e lt c env (some ⟨enc x, .fz⟩) s8 s9 ord fo es).set 3 (some ⟨putD (enc x) (.int (ord.length : Nat)) (ord.map enc) (nats (List.range ord.length)), .own⟩))) else none) = some (.next sm) := by
          rw [if_pos ⟨okk, lks⟩, pn]
          rfl
        rw [← hk]
      exact this
    refine (runB_next s1).trans ?_
    refine (runB_next (r' := sL enc e lt c env (some ⟨enc x, .fz⟩) s8 s9 (ord ++ [x]) fo es) ?_).trans (by rw [runB_nil])
    rw [runS_expr, run_app]
    simp only [sm, sL]
    rw [List.map_append, List.map_singleton]
    rw [List.length_map] at lks
    simp [look, res, frz, isLst, lks]

omit he hc hU lU [DecidableEq α] in
theorem ends_snoc {ord ord' : List α} (pr : ord <+: ord') {i : Nat} {x : α} (hx : ord[i]? = some x) : (List.range (i + 1)).filter (eO ord' e) = (List.range i).filter (eO ord e) ++ (if e x = true then [i] else []) := by
  have hi := (List.getElem?_eq_some_iff.mp hx).1
  have old : ∀ j, j < ord.length → eO ord' e j = eO ord e j := fun j hj => by
    obtain ⟨t, ht⟩ := pr
    unfold eO
    rw [← ht, List.getElem?_append_left hj]
  rw [List.range_succ, List.filter_append]
  congr 1
  · exact List.filter_congr fun j hj => old j (by have := List.mem_range.mp hj; omega)
  · have : eO ord' e i = e x := by rw [old i hi]; unfold eO; rw [hx]
    rw [List.filter_cons, this]
    rfl
theorem bodyL_turn (hfn : ∀ x, noFn (enc x) = true) (hf : ∀ x, P x → ∃ dn z, W.phi (cloKey c) (enc x :: env) = some (.val (.tup [.bl (e x), dn]), z) ∧ items dn = some ((nx x).map enc) ∧ noFn dn = true)
    (ord : List α) (fo : List (List Nat)) {x : α} (q : SI id nx P ord fo) (hx : ord[fo.length]? = some x) :
    ∃ r', runB W n bodyL (sL enc e lt c env none none none ord fo ((List.range fo.length).filter (eO ord e))) = some (.next r') ∧
      wipeR r' [1, 7, 8, 9, 10] = sL enc e lt c env none none none (addAll id ord (nx x)) (fo ++ [rowOf id nx (addAll id ord (nx x)) x]) ((List.range (fo ++ [rowOf id nx (addAll id ord (nx x)) x]).length).filter (eO (addAll id ord (nx x)) e)) := by
  have px : P x := q.all x (List.mem_of_getElem? hx)
  obtain ⟨dn, z, hp, hit, hnf⟩ := hf x px
  have pr := addAll_prefix (key := id) (nx x) ord
  rw [List.length_append, List.length_singleton, ends_snoc (e := e) pr hx]
  have lf : fo.length < 4000 := by
    have := sqL_le hU lU q.toSQ
    have := (List.getElem?_eq_some_iff.mp hx).1
    omega
  have les : ((List.range fo.length).filter (eO ord e)).length ≤ 4000 := by
    have := List.length_filter_le (eO ord e) (List.range fo.length)
    rw [List.length_range] at this
    omega
  generalize (List.range fo.length).filter (eO ord e) = es at les ⊢
  have q2 := q.toSQ.addAll (hc x px)
  have lo2 := sqL_le hU lU q2
  generalize hO : addAll id ord (nx x) = ord' at q2 lo2 ⊢
  have row : rowOf id nx ord' x = (nx x).map fun y => ord'.idxOf y := by
    unfold rowOf
    rw [List.map_id]
    rfl
  have e1 : semLen (.lst (fo.map lD)) = some (.val (.int (fo.length : Nat))) := len_lst (List.length_map ..)
  refine ⟨sL enc e lt c env none none (some ⟨dn, .fz⟩) ord' (fo ++ [rowOf id nx ord' x]) (es ++ if e x = true then [fo.length] else []), ?_, rfl⟩
  have s1 : runS W n (.unp [8, 9] (.callF 2 (.cons (.op2 .at (.var 4) (.op1 .len (.var 5))) .nil))) (sL enc e lt c env none none none ord fo es) = some (.next (sL enc e lt c env none (some ⟨.bl (e x), .fz⟩) (some ⟨dn, .fz⟩) ord fo es)) := by
    have e2 : semAt (.lst (ord.map enc)) (.int (fo.length : Nat)) = some (.val (enc x)) := at_lst (by rw [List.getElem?_map, hx]; rfl)
    have n1 : noFns [enc x] = true := by show (noFn (enc x) && true) = true; rw [hfn x]; rfl
    have n2 : noFn (.tup [.bl (e x), dn]) = true := by show (true && (noFn dn && true)) = true; rw [hnf]; rfl
    have ar : runA W (.cons (.op2 .at (.var 4) (.op1 .len (.var 5))) .nil) none (sL enc e lt c env none none none ord fo es) = some ([.val (enc x)], sL enc e lt c env none none none ord fo es) := by
      simp only [sL]
      generalize Dat.lst (ord.map enc) = z2 at e2 ⊢
      generalize Dat.lst (fo.map lD) = z3 at e1 ⊢
      simp [look, res, frz, sem1, sem2, pre2, e1, e2]
    have hcf : Dl.run W (.callF 2 (.cons (.op2 .at (.var 4) (.op1 .len (.var 5))) .nil)) (sL enc e lt c env none none none ord fo es) = some (.val (.tup [.bl (e x), dn]), sL enc e lt c env none none none ord fo es) := by
      rw [run_callF 2 _ (c := c) (env := env) rfl, ar]
      simp only [Option.bind_some, resAll, res]
      show (if noFns [enc x] = true then (W.phi (cloKey c) (enc x :: env)).bind _ else none) = _
      rw [if_pos n1, hp]
      show plainO _ (Out.val (.tup [.bl (e x), dn]), z) = _
      exact if_pos n2
    rw [runS_unp, hcf]
    rfl
  refine (runB_next s1).trans ?_
  have s2 : runS W n (.ife (.val (.var 8)) (.cons (.expr (.app 6 (.op1 .len (.var 5)))) .nil) .nil) (sL enc e lt c env none (some ⟨.bl (e x), .fz⟩) (some ⟨dn, .fz⟩) ord fo es) = some (.next (sL enc e lt c env none (some ⟨.bl (e x), .fz⟩) (some ⟨dn, .fz⟩) ord fo (es ++ if e x = true then [fo.length] else []))) := by
    rw [runS_ife]
    cases hex : e x with
    | false =>
      rw [if_neg Bool.false_ne_true, List.append_nil]
      rfl
    | true =>
      rw [if_pos rfl]
      have ls : (nats es).length < sizeLine := by rw [nats_len]; exact big9 (by omega)
      have na : nats (es ++ [fo.length]) = nats es ++ [.int (fo.length : Nat)] := nats_app _ _
      simp only [sL]
      rw [na]
      generalize Dat.lst (fo.map lD) = z3 at e1 ⊢
      simp [run_app, look, res, frz, sem1, e1, truthD, isLst, ls]
  refine (runB_next s2).trans ?_
  generalize (es ++ if e x = true then [fo.length] else []) = es'
  have s3 : runS W n (.for_ (.name 7) (.seq (.var 9)) forL [1, 7, 8, 10]) (sL enc e lt c env none (some ⟨.bl (e x), .fz⟩) (some ⟨dn, .fz⟩) ord fo es') = some (.next (sL enc e lt c env none none (some ⟨dn, .fz⟩) ord' fo es')) := by
    rw [runS_for]
    have hI : runI W (.seq (.var 9)) (sL enc e lt c env none (some ⟨.bl (e x), .fz⟩) (some ⟨dn, .fz⟩) ord fo es') = some ((nx x).map enc, sL enc e lt c env none (some ⟨.bl (e x), .fz⟩) (some ⟨dn, .fz⟩) ord fo es') := by
      simp [sL, look, frz, hit]
    rw [hI]
    have := forD_add (key := (id : α → α)) (P := P) (f := stepF W n (.name 7) forL) (wp := [1, 7, 8, 10]) enc (fun o => sL enc e lt c env none none (some ⟨dn, .fz⟩) o fo es') (nx x) (fun o y hy qo => forL_turn W n he hc hU lU lt none _ fo es' o (hc x px y hy) qo) (hc x px) ord q.toSQ
    rw [hO] at this
    exact this
  refine (runB_next s3).trans ?_
  have cp : Dl.run W (.comp [7] (.name 7) (.seq (.var 9)) .no (.op2 .at (.var 3) (.var 7))) (sL enc e lt c env none none (some ⟨dn, .fz⟩) ord' fo es') = some (.fresh (lD (rowOf id nx ord' x)), sL enc e lt c env none none (some ⟨dn, .fz⟩) ord' fo es') := by
    rw [run_comp]
    have hI : runI W (.seq (.var 9)) (sL enc e lt c env none none (some ⟨dn, .fz⟩) ord' fo es') = some ((nx x).map enc, sL enc e lt c env none none (some ⟨dn, .fz⟩) ord' fo es') := by
      simp [sL, look, frz, hit]
    rw [hI]
    show (compD _ ((nx x).map enc) (sL enc e lt c env none none (some ⟨dn, .fz⟩) ord' fo es')).bind _ = _
    have key : ∀ l : List α, (∀ y ∈ l, y ∈ nx x) → compD (turnC W [7] (.name 7) .no (.op2 .at (.var 3) (.var 7))) (l.map enc) (sL enc e lt c env none none (some ⟨dn, .fz⟩) ord' fo es') = some (nats (l.map fun y => ord'.idxOf y), sL enc e lt c env none none (some ⟨dn, .fz⟩) ord' fo es') := by
      intro l
      induction l with
      | nil => exact fun _ => rfl
      | cons y l ih =>
        intro hl
        have hy := hl y (List.mem_cons_self ..)
        have hm : y ∈ ord' := by
          have := addAll_has (key := (id : α → α)) (nx x) ord y hy
          rw [hO, List.map_id] at this
          exact this
        have e3 : semAt (nD enc ord') (enc y) = some (.val (.int (ord'.idxOf y : Nat))) := at_n he hm
        have tn : turnC W [7] (.name 7) .no (.op2 .at (.var 3) (.var 7)) (enc y) (sL enc e lt c env none none (some ⟨dn, .fz⟩) ord' fo es') = some (some (.int (ord'.idxOf y : Nat)), sL enc e lt c env none none (some ⟨dn, .fz⟩) ord' fo es') := by
          simp only [sL]
          generalize nD enc ord' = z2 at e3 ⊢
          simp [turnC, bindT, look, res, frz, sem2, pre2, e3, wipeR]
        rw [List.map_cons, compD, tn]
        show (compD _ (l.map enc) _).bind _ = _
        rw [ih fun w hw => hl w (List.mem_cons_of_mem _ hw)]
        rfl
    rw [key (nx x) fun y hy => hy, row]
    rfl
  refine (runB_next (r' := sL enc e lt c env none none (some ⟨dn, .fz⟩) ord' (fo ++ [rowOf id nx ord' x]) es') ?_).trans (by rw [runB_nil])
  rw [runS_expr, run_app]
  have h0 : ∀ f, look (sL enc e lt c env none none (some ⟨dn, .fz⟩) ord' f es') 5 = some ⟨.lst (f.map lD), .own⟩ := fun _ => rfl
  rw [h0]
  simp only [Option.bind_some, isLst, if_true]
  rw [cp]
  simp only [Option.bind_some, frz]
  rw [h0]
  dsimp only
  rw [if_pos (by rw [List.length_map]; exact big9 (by omega))]
  simp only [Option.bind_some, sL]
  rw [List.map_append]
  rfl
end
end Dm

/-! M7: least_by, the whole. -/
namespace Dm
open PySem PySem.Spec PyProof.Rows L2 Dl
theorem lang_congr {k : Nat} {T : List (List Nat)} (hT : Tab k T) {e e' : Nat → Bool} (h : ∀ s, s < T.length → e s = e' s) : ∀ (w : List Nat) (s : Nat), s < T.length → lang (nxT T) e w s = lang (nxT T) e' w s
  | [], s, hs => h s hs
  | a :: w, s, hs => by
    unfold lang
    cases hy : (nxT T s)[a]? with
    | none => rfl
    | some y => exact lang_congr hT h w y (hT.nxlow hs (List.mem_of_getElem? hy))
theorem dictP_nats : ∀ (l ks : List Nat), (ks ++ l).Nodup → dictP (l.map fun s => Dat.tup [.int (s : Nat), .bl true]) (nats ks) (ks.map fun _ => Dat.bl true) = some (.dct (nats (ks ++ l)) ((ks ++ l).map fun _ => Dat.bl true))
  | [], ks, _ => by rw [List.append_nil]; rfl
  | s :: l, ks, nd => by
    have hs : s ∉ ks := fun z => by
      have := (List.nodup_append.mp nd).2.2 s z s (List.mem_cons_self ..)
      exact this rfl
    have hk : hasK (.int (s : Nat)) (nats ks) = false := by
      have := hasK_enc encN_ok s ks
      rw [decide_eq_false hs] at this
      exact this
    rw [List.map_cons, dictP]
    rw [if_pos (show flatK (.int (s : Nat)) = true from rfl)]
    unfold putD
    rw [hk, if_neg Bool.false_ne_true]
    dsimp only
    have ih := dictP_nats l (ks ++ [s]) (by rw [List.append_assoc]; exact nd)
    rw [List.append_assoc, nats_app, List.map_append] at ih
    exact ih
def HasOrder (W : Wd) (n : Nat) : Prop := W.io "put_in_order" = some none ∧ ∃ W', HasClasses W' n ∧ ∀ ds, W.phi "put_in_order" ds = runD W' n d_put_in_order ds
/-- what a handed function tells of things -/
def Tells (W : Wd) (c : Nat) (env : List Dat) {α : Type} (enc : α → Dat) (nx : α → List α) (e : α → Bool) (P : α → Prop) : Prop :=
  ∀ x, P x → ∃ dn z, W.phi (cloKey c) (enc x :: env) = some (.val (.tup [.bl (e x), dn]), z) ∧ items dn = some ((nx x).map enc) ∧ noFn dn = true
theorem least_by_run {W : Wd} {n : Nat} (hW : HasOrder W n) (hN : 5000 ≤ n) {α : Type} [DecidableEq α] {enc : α → Dat} (he : Enc enc) {nx : α → List α} {e : α → Bool} {P : α → Prop} {U : List α} {k : Nat} (hk : k ≤ 1000) (hc : ∀ x, P x → ∀ y ∈ nx x, P y) (hl : ∀ x, P x → (nx x).length = k)
    (hU : ∀ x, P x → x ∈ U) (lU : U.length ≤ 4000) (lt : Dat) {c : Nat} {env : List Dat} (hfn : ∀ x, noFn (enc x) = true) (hf : Tells W c env enc nx e P) {b : α} (hb : P b) :
    runD W n d_least_by [lt, enc b, .fn c env] = some (.val (cD n k lt (lg nx e b)), .non) := by
  obtain ⟨io, W', hcl, hp⟩ := hW
  have se := search (key := (id : α → α)) (nx := nx) (P := P) (N := 4000) (t := runT W (.cmp .lt (.op1 .len (.var 5)) (.op1 .len (.var 4)))) (body := runB W n bodyL) (wp := [1, 7, 8, 9, 10])
    (fun ord fo => sL enc e lt c env none none none ord fo ((List.range fo.length).filter (eO ord e))) hc (fun ord q => sqL_le hU lU q) (fun _ _ => rfl)
    (fun ord fo q => by
      have e1 : semLen (.lst (fo.map lD)) = some (.val (.int (fo.length : Nat))) := len_lst (List.length_map ..)
      have e2 : semLen (.lst (ord.map enc)) = some (.val (.int (ord.length : Nat))) := len_lst (List.length_map ..)
      have e3 := lt_nat fo.length ord.length
      simp only [sL]
      generalize Dat.lst (ord.map enc) = z2 at e2 ⊢
      generalize Dat.lst (fo.map lD) = z3 at e1 ⊢
      simp [look, res, sem1, sem2, pre2, e1, e2, e3])
    (fun ord fo x q hx => bodyL_turn W n he hc hU lU lt hfn hf ord fo q hx) n [b] [] { keys := by simp, all := fun x hx => by rw [List.mem_singleton.mp hx]; exact hb, le := Nat.zero_le _, rows := rfl, done := fun j x hj => by cases hj } (by show _ ≤ n + 0; omega)
  obtain ⟨hw, si⟩ := se
  rw [List.length_nil] at hw si
  have hO0 : (bfs (id : α → α) nx n 0 [b])[0]? = some b := by
    obtain ⟨t, ht⟩ := bfs_prefix (key := (id : α → α)) (nx := nx) n 0 [b]
    rw [← ht]
    rfl
  generalize bfs (id : α → α) nx n 0 [b] = O at hw si hO0
  have lO : O.length ≤ 4000 := sqL_le hU lU si.toSQ
  generalize hTd : O.map (rowOf id nx O) = T at hw si
  have lT : T.length = O.length := by rw [← hTd, List.length_map]
  have hcl' : Closed id nx O := fun x hx y hy => by
    obtain ⟨j, hj⟩ := List.mem_iff_getElem?.mp hx
    exact si.done j x (by rw [lT]; exact (List.getElem?_eq_some_iff.mp hj).1) hj y hy
  have hT : Tab k T := by
    constructor
    · intro r hr
      rw [← hTd] at hr
      obtain ⟨x, hx, rfl⟩ := List.mem_map.mp hr
      unfold rowOf
      rw [List.length_map]
      exact hl x (si.all x hx)
    · intro r hr s hs
      rw [← hTd] at hr
      obtain ⟨x, hx, rfl⟩ := List.mem_map.mp hr
      obtain ⟨y, hy, rfl⟩ := List.mem_map.mp hs
      have := List.idxOf_lt_length_of_mem (hcl' x hx y hy)
      rw [List.length_map] at this
      rw [lT]
      exact this
  have h0 : 0 < T.length := by rw [lT]; exact (List.getElem?_eq_some_iff.mp hO0).1
  generalize hes : (List.range T.length).filter (eO O e) = es at hw
  have les : es.length ≤ 4000 := by
    rw [← hes]
    have := List.length_filter_le (eO O e) (List.range T.length)
    rw [List.length_range] at this
    omega
  have nes : es.Nodup := by rw [← hes]; exact List.nodup_range.filter _
  have hed : ∀ s, s < T.length → semIn (.int (s : Nat)) (.dct (nats es) (es.map fun _ => Dat.bl true)) = some (.val (.bl (eO O e s))) := fun s hs => by
    have := in_enc encN_ok s es (es.map fun _ => Dat.bl true)
    rw [show decide (s ∈ es) = eO O e s from by
      have hm : s ∈ es ↔ eO O e s = true := by rw [← hes, List.mem_filter, List.mem_range]; exact ⟨fun z => z.2, fun z => ⟨hs, z⟩⟩
      cases h : eO O e s
      · exact decide_eq_false fun z => by rw [hm, h] at z; cases z
      · exact decide_eq_true (hm.mpr h)] at this
    exact this
  have od := order_run hcl hT hk (by omega) h0 hN lt hed
  have hlg : lg (nxT T) (eO O e) 0 = lg nx e b := by
    funext w
    rw [← hTd]
    exact tab_lang hc si.all hcl' (fun x y _ _ hxy => by rw [show x = y from hxy]) w 0 b hO0
  rw [hlg, ← hp] at od
  refine runD_val (r := [some ⟨lt, .fz⟩, none, some ⟨.fn c env, .fz⟩, some ⟨nD enc O, .own⟩, some ⟨.lst (O.map enc), .own⟩, some ⟨tabD T, .fz⟩, some ⟨.lst (nats es), .fz⟩, none, none, none, none]) rfl ?_ rfl
  show runB W n _ [some ⟨lt, .fz⟩, some ⟨enc b, .fz⟩, some ⟨.fn c env, .fz⟩, none, none, none, none, none, none, none, none] = _
  have s1 : runS W n (.set 3 (.dct (.cons (.var 1) (.cons (.int 0) .nil)))) [some ⟨lt, .fz⟩, some ⟨enc b, .fz⟩, some ⟨.fn c env, .fz⟩, none, none, none, none, none, none, none, none] = some (.next [some ⟨lt, .fz⟩, some ⟨enc b, .fz⟩, some ⟨.fn c env, .fz⟩, some ⟨nD enc [b], .own⟩, none, none, none, none, none, none, none]) := by
    have mk : mkD [enc b, .int 0] [] [] = some (nD enc [b]) := by
      have okk := he.ok [] b
      show (if okey [] (enc b) = true ∧ ([] : List Dat).length < 1000 then _ else none) = _
      rw [if_pos ⟨okk, by decide⟩]
      rfl
    generalize enc b = z at mk ⊢
    simp [look, frz, mk, store]
  refine (runB_next s1).trans ?_
  have s2 : runS W n (.set 4 (.lst (.cons (.var 1) .nil))) [some ⟨lt, .fz⟩, some ⟨enc b, .fz⟩, some ⟨.fn c env, .fz⟩, some ⟨nD enc [b], .own⟩, none, none, none, none, none, none, none] = some (.next [some ⟨lt, .fz⟩, some ⟨enc b, .fz⟩, some ⟨.fn c env, .fz⟩, some ⟨nD enc [b], .own⟩, some ⟨.lst ([b].map enc), .own⟩, none, none, none, none, none, none]) := rfl
  refine (runB_next s2).trans ?_
  have s3 : runS W n (.set 5 (.lst .nil)) [some ⟨lt, .fz⟩, some ⟨enc b, .fz⟩, some ⟨.fn c env, .fz⟩, some ⟨nD enc [b], .own⟩, some ⟨.lst ([b].map enc), .own⟩, none, none, none, none, none, none] = some (.next [some ⟨lt, .fz⟩, some ⟨enc b, .fz⟩, some ⟨.fn c env, .fz⟩, some ⟨nD enc [b], .own⟩, some ⟨.lst ([b].map enc), .own⟩, some ⟨.lst [], .own⟩, none, none, none, none, none]) := rfl
  refine (runB_next s3).trans ?_
  have s4 : runS W n (.set 6 (.lst .nil)) [some ⟨lt, .fz⟩, some ⟨enc b, .fz⟩, some ⟨.fn c env, .fz⟩, some ⟨nD enc [b], .own⟩, some ⟨.lst ([b].map enc), .own⟩, some ⟨.lst [], .own⟩, none, none, none, none, none] = some (.next [some ⟨lt, .fz⟩, some ⟨enc b, .fz⟩, some ⟨.fn c env, .fz⟩, some ⟨nD enc [b], .own⟩, some ⟨.lst ([b].map enc), .own⟩, some ⟨.lst [], .own⟩, some ⟨.lst [], .own⟩, none, none, none, none]) := rfl
  refine (runB_next s4).trans ?_
  refine (runB_next (r' := sL enc e lt c env none none none O T es) ?_).trans ?_
  · rw [runS_whl]
    exact hw
  have dl : (T.map lD : List Dat) = T.map fun r => .lst (nats r) := rfl
  have cp : Dl.run W (.op1 .dctP (.comp [10] (.name 10) (.seq (.var 6)) .no (.tup (.cons (.var 10) (.cons (.bl true) .nil))))) [some ⟨lt, .fz⟩, none, some ⟨.fn c env, .fz⟩, some ⟨nD enc O, .own⟩, some ⟨.lst (O.map enc), .own⟩, some ⟨tabD T, .fz⟩, some ⟨.lst (nats es), .own⟩, none, none, none, none] =
      some (.fresh (.dct (nats es) (es.map fun _ => Dat.bl true)), [some ⟨lt, .fz⟩, none, some ⟨.fn c env, .fz⟩, some ⟨nD enc O, .own⟩, some ⟨.lst (O.map enc), .own⟩, some ⟨tabD T, .fz⟩, some ⟨.lst (nats es), .fz⟩, none, none, none, none]) := by
    rw [run_op1, run_comp]
    have hI : runI W (.seq (.var 6)) [some ⟨lt, .fz⟩, none, some ⟨.fn c env, .fz⟩, some ⟨nD enc O, .own⟩, some ⟨.lst (O.map enc), .own⟩, some ⟨tabD T, .fz⟩, some ⟨.lst (nats es), .own⟩, none, none, none, none] = some (nats es, [some ⟨lt, .fz⟩, none, some ⟨.fn c env, .fz⟩, some ⟨nD enc O, .own⟩, some ⟨.lst (O.map enc), .own⟩, some ⟨tabD T, .fz⟩, some ⟨.lst (nats es), .fz⟩, none, none, none, none]) := rfl
    rw [hI]
    show ((compD _ (nats es) [some ⟨lt, .fz⟩, none, some ⟨.fn c env, .fz⟩, some ⟨nD enc O, .own⟩, some ⟨.lst (O.map enc), .own⟩, some ⟨tabD T, .fz⟩, some ⟨.lst (nats es), .fz⟩, none, none, none, none]).bind _).bind _ = _
    rw [compD_nats _ (fun s => Dat.tup [.int (s : Nat), .bl true]) es fun s hs => by
      simp [turnC, bindT, look, res, frz, wipeR]]
    have dp := dictP_nats es [] nes
    have ln : (es.map fun s => Dat.tup [.int (s : Nat), .bl true]).length < sizeLine := by rw [List.length_map]; exact big9 (by omega)
    have sd : semDctP (.lst (es.map fun s => Dat.tup [.int (s : Nat), .bl true])) = some (.fresh (.dct (nats es) (es.map fun _ => Dat.bl true))) := by
      show (if _ < sizeLine then (dictP _ [] []).map Out.fresh else none) = _
      rw [if_pos ln]
      exact congrArg (Option.map Out.fresh) dp
    simp only [Option.bind_some, res, sem1]
    rw [sd]
    rfl
  rw [runB_ret (o := .val (cD n k lt (lg nx e b))) (r' := [some ⟨lt, .fz⟩, none, some ⟨.fn c env, .fz⟩, some ⟨nD enc O, .own⟩, some ⟨.lst (O.map enc), .own⟩, some ⟨tabD T, .fz⟩, some ⟨.lst (nats es), .fz⟩, none, none, none, none])]
  rw [runS_ret, run_call, io]
  simp only [Option.bind_some]
  have a1 : runA W (.cons (.var 0) (.cons (.var 5) (.cons (.op1 .dctP (.comp [10] (.name 10) (.seq (.var 6)) .no (.tup (.cons (.var 10) (.cons (.bl true) .nil))))) .nil))) none (sL enc e lt c env none none none O T es) =
      some ([.val lt, .val (tabD T), .val (.dct (nats es) (es.map fun _ => Dat.bl true))], [some ⟨lt, .fz⟩, none, some ⟨.fn c env, .fz⟩, some ⟨nD enc O, .own⟩, some ⟨.lst (O.map enc), .own⟩, some ⟨tabD T, .fz⟩, some ⟨.lst (nats es), .fz⟩, none, none, none, none]) := by
    rw [runA_none]
    show (runA W (.cons (.var 5) _) none (sL enc e lt c env none none none O T es)).bind _ = _
    rw [runA_none]
    show ((runA W (.cons _ .nil) none [some ⟨lt, .fz⟩, none, some ⟨.fn c env, .fz⟩, some ⟨nD enc O, .own⟩, some ⟨.lst (O.map enc), .own⟩, some ⟨tabD T, .fz⟩, some ⟨.lst (nats es), .own⟩, none, none, none, none]).bind _).bind _ = _
    rw [runA_none, cp]
    rfl
  rw [a1]
  simp only [Option.bind_some, resAll, res]
  show ((W.phi "put_in_order" [lt, tabD T, .dct (nats es) (es.map fun _ => Dat.bl true)]).bind _).bind _ = _
  rw [od]
  rfl
end Dm

/-! M8: the one machine's language; two machines side by side. -/
namespace Dm
open PySem PySem.Spec PyProof.Rows L2 Dl
structure McOk (k N : Nat) (T : List (List Nat)) (es : List Nat) : Prop where
  tab : Tab k T
  pos : 0 < T.length
  le : T.length ≤ N
  low : ∀ s ∈ es, s < T.length
def inE (es : List Nat) (s : Nat) : Bool := decide (s ∈ es)
/-- a machine's language -/
def mL (T : List (List Nat)) (es : List Nat) : Lg := lg (nxT T) (inE es) 0
theorem canon_ok {α : Type} {nx : α → List α} {e : α → Bool} {P : α → Prop} {U : List α} {n k N : Nat} {b : α} (hb : P b) (hc : ∀ x, P x → ∀ y ∈ nx x, P y) (hl : ∀ x, P x → (nx x).length = k) (hU : ∀ x, P x → x ∈ U) (lU : U.length ≤ N) (hn : N ≤ n) :
    McOk k N (cTab n k (lg nx e b)) (cEnds n k (lg nx e b)) ∧ mL (cTab n k (lg nx e b)) (cEnds n k (lg nx e b)) = lg nx e b := by
  letI : DecidableEq Lg := fun a b => Classical.propDecidable (a = b)
  have cn := canon_of (key := lg nx e) (nx := nx) (e := e) (P := P) (k := k) (n := n) (b := b) hb hc hl fun x y _ _ => Iff.rfl
  have hP : ∀ x ∈ bfs (lg nx e) nx n 0 [b], P x := bfs_all hc n 0 [b] fun y hy => by rw [List.mem_singleton.mp hy]; exact hb
  have nd : ((bfs (lg nx e) nx n 0 [b]).map (lg nx e)).Nodup := bfs_keys n 0 [b] (by simp)
  have lO : (bfs (lg nx e) nx n 0 [b]).length ≤ N := by
    have := nodup_len (U := U.map (lg nx e)) nd fun x hx => List.mem_map.mpr ⟨x, hU x (hP x hx), rfl⟩
    rw [List.length_map] at this
    omega
  have hcl : Closed (lg nx e) nx (bfs (lg nx e) nx n 0 [b]) := bfs_closed n 0 [b] (fun j x hj => by cases hj) (by omega)
  have hO0 : (bfs (lg nx e) nx n 0 [b])[0]? = some b := by
    obtain ⟨t, ht⟩ := bfs_prefix (key := lg nx e) (nx := nx) n 0 [b]
    rw [← ht]
    rfl
  generalize bfs (lg nx e) nx n 0 [b] = O at cn hP nd lO hcl hO0
  rw [← cn.1, ← cn.2]
  have hT : Tab k (O.map (rowOf (lg nx e) nx O)) := by
    constructor
    · intro r hr
      obtain ⟨x, hx, rfl⟩ := List.mem_map.mp hr
      unfold rowOf
      rw [List.length_map]
      exact hl x (hP x hx)
    · intro r hr s hs
      obtain ⟨x, hx, rfl⟩ := List.mem_map.mp hr
      obtain ⟨y, hy, rfl⟩ := List.mem_map.mp hs
      have := List.idxOf_lt_length_of_mem (hcl x hx y hy)
      rw [List.length_map] at this
      rw [List.length_map]
      exact this
  have h0 : 0 < O.length := (List.getElem?_eq_some_iff.mp hO0).1
  refine ⟨⟨hT, by rw [List.length_map]; exact h0, by rw [List.length_map]; exact lO, fun s hs => ?_⟩, ?_⟩
  · rw [List.length_map]
    exact List.mem_range.mp (List.mem_filter.mp hs).1
  · funext w
    unfold mL lg
    rw [← tab_lang hc hP hcl (fun x y _ _ h => h) w 0 b hO0]
    refine lang_congr hT (fun s hs => ?_) w 0 (by rw [List.length_map]; exact h0)
    rw [List.length_map] at hs
    unfold inE
    have hm : s ∈ (List.range O.length).filter (eO O e) ↔ eO O e s = true := by rw [List.mem_filter, List.mem_range]; exact ⟨fun z => z.2, fun z => ⟨hs, z⟩⟩
    cases h : eO O e s
    · exact decide_eq_false fun z => by have z' := hm.mp z; rw [h] at z'; cases z'
    · exact decide_eq_true (hm.mpr h)
def onK (k : Nat) (w : List Nat) : Bool := w.all fun a => decide (a < k)
theorem lang_off {α : Type} {nx : α → List α} {e : α → Bool} {P : α → Prop} {k : Nat} (hc : ∀ x, P x → ∀ y ∈ nx x, P y) (hl : ∀ x, P x → (nx x).length = k) : ∀ (w : List Nat) (x : α), P x → onK k w = false → lang nx e w x = false
  | [], x, _, h => by cases h
  | a :: w, x, hx, h => by
    unfold lang
    cases hy : (nx x)[a]? with
    | none => rfl
    | some y =>
      have ha := (List.getElem?_eq_some_iff.mp hy).1
      rw [hl x hx] at ha
      have h' : (decide (a < k) && onK k w) = false := h
      rw [decide_eq_true ha, Bool.true_and] at h'
      exact lang_off hc hl w y (hc x hx y (List.mem_of_getElem? hy)) h'
theorem mL_off {k N : Nat} {T : List (List Nat)} {es : List Nat} (ok : McOk k N T es) {w : List Nat} (h : onK k w = false) : mL T es w = false :=
  lang_off (P := fun s => s < T.length) (fun s hs y hy => ok.tab.nxlow hs hy) (fun s hs => ok.tab.nxlen hs) w 0 ok.pos h
/-! ### two side by side -/
def nx2 (T1 T2 : List (List Nat)) (p : Nat × Nat) : List (Nat × Nat) := (nxT T1 p.1).zip (nxT T2 p.2)
def P2 (T1 T2 : List (List Nat)) (p : Nat × Nat) : Prop := p.1 < T1.length ∧ p.2 < T2.length
theorem nx2_closed {k : Nat} {T1 T2 : List (List Nat)} (h1 : Tab k T1) (h2 : Tab k T2) : ∀ p, P2 T1 T2 p → ∀ q ∈ nx2 T1 T2 p, P2 T1 T2 q := fun p hp q hq => by
  have := List.of_mem_zip (a := q.1) (b := q.2) hq
  exact ⟨h1.nxlow hp.1 this.1, h2.nxlow hp.2 this.2⟩
theorem nx2_len {k : Nat} {T1 T2 : List (List Nat)} (h1 : Tab k T1) (h2 : Tab k T2) : ∀ p, P2 T1 T2 p → (nx2 T1 T2 p).length = k := fun p hp => by
  unfold nx2
  rw [List.length_zip, h1.nxlen hp.1, h2.nxlen hp.2, Nat.min_self]
def U2 (T1 T2 : List (List Nat)) : List (Nat × Nat) := (List.range T1.length).flatMap fun p => (List.range T2.length).map fun q => (p, q)
theorem U2_mem {T1 T2 : List (List Nat)} : ∀ p, P2 T1 T2 p → p ∈ U2 T1 T2 := fun p hp => by
  refine List.mem_flatMap.mpr ⟨p.1, List.mem_range.mpr hp.1, List.mem_map.mpr ⟨p.2, List.mem_range.mpr hp.2, rfl⟩⟩
theorem U2_len (T1 T2 : List (List Nat)) : (U2 T1 T2).length = T1.length * T2.length := by
  unfold U2
  rw [List.length_flatMap]
  simp only [List.length_map, List.length_range]
  rw [List.map_const', List.sum_replicate_nat, List.length_range]
theorem lang2 {k : Nat} {T1 T2 : List (List Nat)} (h1 : Tab k T1) (h2 : Tab k T2) {e1 e2 : Nat → Bool} (f : Bool → Bool → Bool) : ∀ (w : List Nat) (p : Nat × Nat), P2 T1 T2 p → onK k w = true →
    lang (nx2 T1 T2) (fun p => f (e1 p.1) (e2 p.2)) w p = f (lang (nxT T1) e1 w p.1) (lang (nxT T2) e2 w p.2)
  | [], p, _, _ => rfl
  | a :: w, p, hp, h => by
    have h : (decide (a < k) && onK k w) = true := h
    rw [Bool.and_eq_true] at h
    have ha := of_decide_eq_true h.1
    have l1 := h1.nxlen hp.1
    have l2 := h2.nxlen hp.2
    unfold lang
    have g : (nx2 T1 T2 p)[a]? = some ((nxT T1 p.1)[a]'(by omega), (nxT T2 p.2)[a]'(by omega)) := by
      unfold nx2
      rw [List.getElem?_zip_eq_some]
      exact ⟨List.getElem?_eq_getElem _, List.getElem?_eq_getElem _⟩
    rw [g, List.getElem?_eq_getElem (l := nxT T1 p.1) (by omega), List.getElem?_eq_getElem (l := nxT T2 p.2) (by omega)]
    exact lang2 h1 h2 f w _ (nx2_closed h1 h2 p hp _ (List.mem_of_getElem? g)) h.2
/-- a language put together out of two -/
def put2 (k : Nat) (f : Bool → Bool → Bool) (L M : Lg) : Lg := fun w => onK k w && f (L w) (M w)
theorem lg2 {k N : Nat} {T1 T2 : List (List Nat)} {s1 s2 : List Nat} {N1 N2 : Nat} (h1 : McOk k N1 T1 s1) (h2 : McOk k N2 T2 s2) (f : Bool → Bool → Bool) : lg (nx2 T1 T2) (fun p => f (inE s1 p.1) (inE s2 p.2)) (0, 0) = put2 k f (mL T1 s1) (mL T2 s2) := by
  funext w
  unfold put2
  cases h : onK k w with
  | true => exact lang2 h1.tab h2.tab f w (0, 0) ⟨h1.pos, h2.pos⟩ h
  | false => exact lang_off (P := P2 T1 T2) (nx2_closed h1.tab h2.tab) (nx2_len h1.tab h2.tab) w (0, 0) ⟨h1.pos, h2.pos⟩ h
/-- .. turned about -/
def put1 (k : Nat) (f : Bool → Bool) (L : Lg) : Lg := fun w => onK k w && f (L w)
theorem lang1 {k : Nat} {T : List (List Nat)} (h1 : Tab k T) {e : Nat → Bool} (f : Bool → Bool) : ∀ (w : List Nat) (s : Nat), s < T.length → onK k w = true → lang (nxT T) (fun s => f (e s)) w s = f (lang (nxT T) e w s)
  | [], s, _, _ => rfl
  | a :: w, s, hs, h => by
    have h : (decide (a < k) && onK k w) = true := h
    rw [Bool.and_eq_true] at h
    have ha := of_decide_eq_true h.1
    have l1 := h1.nxlen hs
    unfold lang
    rw [List.getElem?_eq_getElem (l := nxT T s) (by omega)]
    exact lang1 h1 f w _ (h1.nxlow hs (List.getElem_mem _)) h.2
theorem lg1 {k N : Nat} {T : List (List Nat)} {es : List Nat} (ok : McOk k N T es) (f : Bool → Bool) : lg (nxT T) (fun s => f (inE es s)) 0 = put1 k f (mL T es) := by
  funext w
  unfold put1
  cases h : onK k w with
  | true => exact lang1 ok.tab f w 0 ok.pos h
  | false => exact lang_off (P := fun s => s < T.length) (fun s hs y hy => ok.tab.nxlow hs hy) (fun s hs => ok.tab.nxlen hs) w 0 ok.pos h
end Dm

/-! M9: least, turned, woven, both, either, without. -/
namespace Dm
open PySem PySem.Spec PyProof.Rows L2 Dl
def d_least (c : Nat) : Df := { N := ["machine", "letters", "table", "ends"], ps := 1, io := none, fin := some { g := "least_by", es := (.cons (.var 1) (.cons (.int 0) .nil)), c := c, js := [3, 2], i := none }, body :=
    (.cons (.unp [1, 2, 3] (.var 0))
    .nil) }
def d_woven (c : Nat) : Df := { N := ["one", "other", "choose", "rows"], ps := 3, io := none, fin := some { g := "least_by", es := (.cons (.op2 .at (.var 0) (.int 0)) (.cons (.tup (.cons (.int 0) (.cons (.int 0) .nil))) .nil)), c := c, js := [2, 0, 1], i := some 3 }, kd := 1, body :=
    .nil }
def d_two (c : Nat) : Df := { N := ["one", "other"], ps := 2, io := none, fin := some { g := "woven", es := (.cons (.var 0) (.cons (.var 1) .nil)), c := c, js := [], i := none }, body :=
    .nil }
def d_cloL : Df := { N := ["state", "ends", "table"], ps := 3, io := none, kd := 2, np := 1, lam := true, body :=
    (.cons (.ret (.tup (.cons (.op2 .isIn (.var 0) (.var 1)) (.cons (.op2 .at (.var 2) (.var 0)) .nil)))) .nil) }
def d_cloT : Df := { N := ["state", "ends", "table"], ps := 3, io := none, kd := 2, np := 1, lam := true, body :=
    (.cons (.ret (.tup (.cons (.op2 .notIn (.var 0) (.var 1)) (.cons (.op2 .at (.var 2) (.var 0)) .nil)))) .nil) }
def d_cloW : Df := { N := ["pair", "choose", "one", "other", "told"], ps := 4, io := none, kd := 2, np := 1, body :=
    (.cons (.set 4 (.callF 1 (.cons (.op2 .isIn (.op2 .at (.var 0) (.int 0)) (.op2 .at (.var 2) (.int 2))) (.cons (.op2 .isIn (.op2 .at (.var 0) (.int 1)) (.op2 .at (.var 3) (.int 2))) .nil))))
    (.cons (.ret (.tup (.cons (.var 4) (.cons (.op2 .lzip (.op2 .at (.op2 .at (.var 2) (.int 1)) (.op2 .at (.var 0) (.int 0))) (.op2 .at (.op2 .at (.var 3) (.int 1)) (.op2 .at (.var 0) (.int 1)))) .nil))))
    .nil)) }
def d_cloB : Df := { N := ["first", "second"], ps := 2, io := none, kd := 2, np := 2, lam := true, body :=
    (.cons (.ret (.and (.var 0) (.var 1))) .nil) }
def d_cloE : Df := { N := ["first", "second"], ps := 2, io := none, kd := 2, np := 2, lam := true, body :=
    (.cons (.ret (.or (.var 0) (.var 1))) .nil) }
def d_cloO : Df := { N := ["first", "second"], ps := 2, io := none, kd := 2, np := 2, lam := true, body :=
    (.cons (.ret (.and (.var 0) (.not (.var 1)))) .nil) }
theorem noFns_nats : ∀ l : List Nat, noFns (nats l) = true
  | [] => rfl
  | s :: l => by
    show (true && noFns (nats l)) = true
    rw [noFns_nats l]
    rfl
theorem noFns_tD : ∀ T : List (List Nat), noFns (T.map tD) = true
  | [] => rfl
  | r :: T => by
    show (noFns (nats r) && noFns (T.map tD)) = true
    rw [noFns_nats, noFns_tD T]
    rfl
theorem noFn_mD {lt : Dat} (h : noFn lt = true) (T : List (List Nat)) (es : List Nat) : noFn (mD lt T es) = true := by
  show (noFn lt && (noFns (T.map tD) && (noFns (nats es) && true))) = true
  rw [h, noFns_tD, noFns_nats]
  rfl
theorem runD_fin {W : Wd} {n : Nat} {D : Df} {ds : List Dat} {F : Dl.Fin} {r r2 : Rho} {x d : Dat} (hl : ds.length = D.ps) (hf : D.fin = some F) (h : runB W n D.body (startR D ds) = some (.next r)) (h2 : runF W D.kd F r = some (.val x, r2)) (hd : leftR D r2 = some d) : runD W n D ds = some (.val x, d) := by
  unfold runD bodyM
  rw [if_pos hl, hf]
  dsimp only
  rw [h]
  dsimp only
  rw [h2]
  show (leftR D r2).bind _ = _
  rw [hd]
  rfl
theorem in_nats (s : Nat) (es : List Nat) : inD (.int (s : Nat)) (.tup (nats es)) = some (inE es s) := by
  have fl : (nats es).all flatD = true := by
    rw [List.all_eq_true]
    intro d hd
    obtain ⟨x, _, rfl⟩ := List.mem_map.mp hd
    rfl
  have an : (nats es).any (fun z => feq z (.int (s : Nat))) = decide (s ∈ es) := by
    clear fl
    induction es with
    | nil => rfl
    | cons x es ih =>
      show (feq (.int (x : Nat)) (.int (s : Nat)) || (nats es).any (fun z => feq z (.int (s : Nat)))) = _
      rw [ih]
      have : feq (.int (x : Nat)) (.int (s : Nat)) = decide (x = s) := by
        show (((x : Nat) : Int) == ((s : Nat) : Int)) = decide (x = s)
        by_cases h : x = s
        · simp [h]
        · have : ¬ ((x : Nat) : Int) = (s : Nat) := by omega
          simp [h, this]
      rw [this]
      by_cases h : x = s
      · subst h; simp
      · simp [h, Ne.symm h]
  show (if flatD (.int (s : Nat)) = true ∧ (nats es).all flatD = true then some ((nats es).any (fun z => feq z (.int (s : Nat)))) else none) = _
  rw [fl, an, if_pos ⟨rfl, rfl⟩]
  rfl
theorem isIn_nats (s : Nat) (es : List Nat) : semIn (.int (s : Nat)) (.tup (nats es)) = some (.val (.bl (inE es s))) := by unfold semIn; rw [in_nats]; rfl
theorem notIn_nats (s : Nat) (es : List Nat) : semNotIn (.int (s : Nat)) (.tup (nats es)) = some (.val (.bl (!inE es s))) := by unfold semNotIn; rw [in_nats]; rfl
theorem row_at {T : List (List Nat)} {s : Nat} (hs : s < T.length) : semAt (.tup (T.map tD)) (.int (s : Nat)) = some (.val (tD (nxT T s))) := at_tup (by
  rw [List.getElem?_map, List.getElem?_eq_getElem hs, nxT_at (List.getElem?_eq_getElem hs)]
  rfl)
/-- the text's defs that are needed -/
structure Has1 (TT : List (Str × Df)) : Prop where
  lb : TT.lookup ("least_by" : Str) = some d_least_by
  po : TT.lookup ("put_in_order" : Str) = some d_put_in_order
  co : TT.lookup ("classes_of" : Str) = some d_classes_of
theorem phi_at {TT : List (Str × Df)} {n k : Nat} {f : Str} {D : Df} (h : TT.lookup f = some D) (ds : List Dat) : (Phi TT n (k + 1)).phi f ds = runD (Phi TT n k) n D ds := by
  show (match TT.lookup f with | some D => runD (Phi TT n k) n D ds | none => none) = _
  rw [h]
theorem io_at {TT : List (Str × Df)} {n k : Nat} {f : Str} {D : Df} (h : TT.lookup f = some D) : (Phi TT n k).io f = some D.io := by
  cases k <;> (show (TT.lookup f).map (·.io) = _; rw [h]; rfl)
theorem Has1.order {TT : List (Str × Df)} (h : Has1 TT) (n k : Nat) : HasOrder (Phi TT n (k + 2)) n :=
  ⟨io_at h.po, Phi TT n (k + 1), ⟨io_at h.co, Phi TT n k, fun ds => phi_at h.co ds⟩, fun ds => phi_at h.po ds⟩
section
variable {TT : List (Str × Df)} (h1 : Has1 TT) {n : Nat} (hN : 5000 ≤ n) {k N : Nat} (hk : k ≤ 1000) {lt : Dat} (hlt : noFn lt = true)
include h1 hN hk hlt
/-- least, turned -/
theorem one_phi {f : Str} {c : Nat} {D : Df} (hf : TT.lookup f = some (d_least c)) (hc : TT.lookup (cloKey c) = some D) (g : Bool → Bool) {T : List (List Nat)} {es : List Nat} (ok : McOk k N T es) (hN4 : N ≤ 4000)
    (hD : ∀ (W : Wd) (s : Nat), s < T.length → runD W n D [.int (s : Nat), .tup (nats es), .tup (T.map tD)] = some (.val (.tup [.bl (g (inE es s)), tD (nxT T s)]), .non)) (d : Nat) :
    (Phi TT n (d + 4)).phi f [mD lt T es] = some (.val (cD n k lt (put1 k g (mL T es))), .non) := by
  rw [phi_at hf]
  have lb := least_by_run (W := Phi TT n (d + 2)) (n := n) (h1.order n d) hN (enc := iN) encN_ok (nx := nxT T) (e := fun s => g (inE es s)) (P := PT T) (U := List.range T.length) (k := k) hk (fun s hs y hy => ok.tab.nxlow hs hy) (fun s hs => ok.tab.nxlen hs) (fun s hs => List.mem_range.mpr hs)
    (by rw [List.length_range]; have := ok.le; omega) lt (c := c) (env := [.tup (nats es), .tup (T.map tD)]) (fun _ => rfl) (fun s hs => ⟨tD (nxT T s), .non, by rw [phi_at hc]; exact hD _ s hs, rfl, noFns_nats _⟩) (b := 0) ok.pos
  rw [lg1 ok g, ← phi_at h1.lb] at lb
  refine runD_fin (F := { g := "least_by", es := (.cons (.var 1) (.cons (.int 0) .nil)), c := c, js := [3, 2], i := none }) (r := [some ⟨mD lt T es, .fz⟩, some ⟨lt, .fz⟩, some ⟨.tup (T.map tD), .fz⟩, some ⟨.tup (nats es), .fz⟩]) (r2 := [some ⟨mD lt T es, .fz⟩, some ⟨lt, .fz⟩, some ⟨.tup (T.map tD), .fz⟩, some ⟨.tup (nats es), .fz⟩]) rfl rfl rfl ?_ rfl
  have nf : noFns [lt, .int 0] = true := by show (noFn lt && (true && true)) = true; rw [hlt]; rfl
  have e1 : noFn (.tup (nats es)) = true := noFns_nats _
  have e2 : noFn (.tup (T.map tD)) = true := noFns_tD _
  have ev : ([.tup (nats es), .tup (T.map tD)] : List Dat).all envD = true := by
    show (noFn (.tup (nats es)) && (noFn (.tup (T.map tD)) && true)) = true
    rw [e1, e2]; rfl
  have nv : noFns [.tup (nats es), .tup (T.map tD)] = true := by
    show (noFn (.tup (nats es)) && (noFn (.tup (T.map tD)) && true)) = true
    rw [e1, e2]; rfl
  show (if noFns [lt, .int 0] = true ∧ ([.tup (nats es), .tup (T.map tD)] : List Dat).all envD = true ∧ ((0 : Nat) = 0 → noFns [.tup (nats es), .tup (T.map tD)] = true) then ((Phi TT n (d + 2 + 1)).phi "least_by" [lt, .int 0, .fn c [.tup (nats es), .tup (T.map tD)]]).bind _ else none) = _
  rw [if_pos ⟨nf, ev, fun _ => nv⟩]
  have lb : (Phi TT n (d + 2 + 1)).phi "least_by" [lt, .int 0, .fn c [.tup (nats es), .tup (T.map tD)]] = _ := lb
  rw [lb]
  have nm : noFn (cD n k lt (put1 k g (mL T es))) = true := noFn_mD hlt _ _
  generalize cD n k lt (put1 k g (mL T es)) = z at nm ⊢
  exact if_pos nm
end
theorem cloL_run (W : Wd) (n : Nat) {T : List (List Nat)} (es : List Nat) {s : Nat} (hs : s < T.length) : runD W n d_cloL [.int (s : Nat), .tup (nats es), .tup (T.map tD)] = some (.val (.tup [.bl (id (inE es s)), tD (nxT T s)]), .non) := by
  have e1 := isIn_nats s es
  have e2 := row_at hs
  refine runD_val (r := [some ⟨.int (s : Nat), .fz⟩, some ⟨.tup (nats es), .fz⟩, some ⟨.tup (T.map tD), .fz⟩]) rfl ?_ rfl
  show runB W n _ [some ⟨.int (s : Nat), .fz⟩, some ⟨.tup (nats es), .fz⟩, some ⟨.tup (T.map tD), .fz⟩] = _
  generalize Dat.tup (nats es) = z1 at e1 ⊢
  generalize Dat.tup (T.map tD) = z2 at e2 ⊢
  simp [d_cloL, look, res, frz, sem2, pre2, e1, e2]
theorem cloT_run (W : Wd) (n : Nat) {T : List (List Nat)} (es : List Nat) {s : Nat} (hs : s < T.length) : runD W n d_cloT [.int (s : Nat), .tup (nats es), .tup (T.map tD)] = some (.val (.tup [.bl (!(inE es s)), tD (nxT T s)]), .non) := by
  have e1 := notIn_nats s es
  have e2 := row_at hs
  refine runD_val (r := [some ⟨.int (s : Nat), .fz⟩, some ⟨.tup (nats es), .fz⟩, some ⟨.tup (T.map tD), .fz⟩]) rfl ?_ rfl
  show runB W n _ [some ⟨.int (s : Nat), .fz⟩, some ⟨.tup (nats es), .fz⟩, some ⟨.tup (T.map tD), .fz⟩] = _
  generalize Dat.tup (nats es) = z1 at e1 ⊢
  generalize Dat.tup (T.map tD) = z2 at e2 ⊢
  simp [d_cloT, look, res, frz, sem2, pre2, e1, e2]

/-! ### woven -/
def encP (p : Nat × Nat) : Dat := tD [p.1, p.2]
theorem encP_ok : Enc encP where
  ok := fun l k => by
    have := encT_ok.ok (l.map fun p => [p.1, p.2]) [k.1, k.2]
    rw [List.map_map] at this
    exact this
  eq := fun k l => by
    have := encT_ok.eq [k.1, k.2] [l.1, l.2]
    show eqK (tD [k.1, k.2]) (tD [l.1, l.2]) = _
    rw [this]
    obtain ⟨a, b⟩ := k
    obtain ⟨a', b'⟩ := l
    by_cases h : (a, b) = (a', b')
    · cases h
      simp
    · rw [decide_eq_false h]
      refine decide_eq_false fun z => h ?_
      injection z with z1 z
      injection z with z2 z
      dsimp only at z1 z2
      rw [z1, z2]
theorem zip_pairs : ∀ (a b : List Nat), zipD (nats a) (nats b) = (a.zip b).map encP
  | [], b => by cases b <;> rfl
  | _ :: _, [] => rfl
  | x :: a, y :: b => by
    show Dat.tup [.int (x : Nat), .int (y : Nat)] :: zipD (nats a) (nats b) = _
    rw [zip_pairs a b]
    rfl
theorem noFns_pairs : ∀ l : List (Nat × Nat), noFns (l.map encP) = true
  | [] => rfl
  | p :: l => by
    show (noFns (nats [p.1, p.2]) && noFns (l.map encP)) = true
    rw [noFns_nats, noFns_pairs l]
    rfl
/-- what choose tells -/
def Chooses (W : Wd) (c : Nat) (f : Bool → Bool → Bool) : Prop := ∀ a b, ∃ z, W.phi (cloKey c) [.bl a, .bl b] = some (.val (.bl (f a b)), z)
theorem cloW_run {W : Wd} (n : Nat) {c : Nat} {f : Bool → Bool → Bool} (hc : Chooses W c f) {l1 l2 : Dat} {T1 T2 : List (List Nat)} (s1 s2 : List Nat) {p : Nat × Nat} (hp : P2 T1 T2 p) :
    runD W n d_cloW [encP p, .fn c [], mD l1 T1 s1, mD l2 T2 s2] = some (.val (.tup [.bl (f (inE s1 p.1) (inE s2 p.2)), .lst ((nx2 T1 T2 p).map encP)]), .non) := by
  obtain ⟨z, hz⟩ := hc (inE s1 p.1) (inE s2 p.2)
  have a0 : semAt (encP p) (.int 0) = some (.val (.int (p.1 : Nat))) := at_tup (i := 0) rfl
  have a1 : semAt (encP p) (.int 1) = some (.val (.int (p.2 : Nat))) := at_tup (i := 1) rfl
  have b1 : semAt (mD l1 T1 s1) (.int 1) = some (.val (.tup (T1.map tD))) := at_tup (i := 1) rfl
  have b2 : semAt (mD l1 T1 s1) (.int 2) = some (.val (.tup (nats s1))) := at_tup (i := 2) rfl
  have c1 : semAt (mD l2 T2 s2) (.int 1) = some (.val (.tup (T2.map tD))) := at_tup (i := 1) rfl
  have c2 : semAt (mD l2 T2 s2) (.int 2) = some (.val (.tup (nats s2))) := at_tup (i := 2) rfl
  have i1 := isIn_nats p.1 s1
  have i2 := isIn_nats p.2 s2
  have r1 := row_at hp.1
  have r2 := row_at hp.2
  have zz : semLzip (tD (nxT T1 p.1)) (tD (nxT T2 p.2)) = some (.fresh (.lst ((nx2 T1 T2 p).map encP))) := by
    show some (Out.fresh (.lst (zipD (nats (nxT T1 p.1)) (nats (nxT T2 p.2))))) = _
    rw [zip_pairs]
    rfl
  refine runD_val (r := [some ⟨encP p, .fz⟩, some ⟨.fn c [], .fz⟩, some ⟨mD l1 T1 s1, .fz⟩, some ⟨mD l2 T2 s2, .fz⟩, some ⟨.bl (f (inE s1 p.1) (inE s2 p.2)), .fz⟩]) rfl ?_ rfl
  show runB W n _ [some ⟨encP p, .fz⟩, some ⟨.fn c [], .fz⟩, some ⟨mD l1 T1 s1, .fz⟩, some ⟨mD l2 T2 s2, .fz⟩, none] = _
  generalize encP p = e at a0 a1 ⊢
  generalize mD l1 T1 s1 = m1 at b1 b2 ⊢
  generalize mD l2 T2 s2 = m2 at c1 c2 ⊢
  generalize Dat.tup (nats s1) = q1 at b2 i1 ⊢
  generalize Dat.tup (nats s2) = q2 at c2 i2 ⊢
  generalize Dat.tup (T1.map tD) = t1 at b1 r1 ⊢
  generalize Dat.tup (T2.map tD) = t2 at c1 r2 ⊢
  generalize tD (nxT T1 p.1) = w1 at r1 zz ⊢
  generalize tD (nxT T2 p.2) = w2 at r2 zz ⊢
  have s1 : runS W n (.set 4 (.callF 1 (.cons (.op2 .isIn (.op2 .at (.var 0) (.int 0)) (.op2 .at (.var 2) (.int 2))) (.cons (.op2 .isIn (.op2 .at (.var 0) (.int 1)) (.op2 .at (.var 3) (.int 2))) .nil)))) [some ⟨e, .fz⟩, some ⟨.fn c [], .fz⟩, some ⟨m1, .fz⟩, some ⟨m2, .fz⟩, none] = some (.next [some ⟨e, .fz⟩, some ⟨.fn c [], .fz⟩, some ⟨m1, .fz⟩, some ⟨m2, .fz⟩, some ⟨.bl (f (inE s1 p.1) (inE s2 p.2)), .fz⟩]) := by
    rw [runS_set, run_callF 1 _ (c := c) (env := []) rfl]
    simp [look, res, frz, sem2, pre2, a0, a1, b2, c2, i1, i2, resAll, noFns, noFn, hz, plainO, store]
  refine (runB_next s1).trans ?_
  refine runB_ret ?_
  simp [look, res, frz, sem2, pre2, a0, a1, b1, c1, r1, r2, zz]
section
variable {TT : List (Str × Df)} (h1 : Has1 TT) {n : Nat} (hN : 5000 ≤ n) {k N1 N2 : Nat} (hk : k ≤ 1000) {lt l2 : Dat} (hlt : noFn lt = true) (hl2 : noFn l2 = true)
include h1 hN hk hlt hl2
theorem woven_phi {cw : Nat} (hw : TT.lookup ("woven" : Str) = some (d_woven cw)) (hcw : TT.lookup (cloKey cw) = some d_cloW) {c : Nat} {f : Bool → Bool → Bool} {T1 T2 : List (List Nat)} {s1 s2 : List Nat} (ok1 : McOk k N1 T1 s1) (ok2 : McOk k N2 T2 s2) (h4 : N1 * N2 ≤ 4000) (d : Nat) (hc : Chooses (Phi TT n (d + 1)) c f) :
    (Phi TT n (d + 4)).phi "woven" [mD lt T1 s1, mD l2 T2 s2, .fn c []] = some (.val (cD n k lt (put2 k f (mL T1 s1) (mL T2 s2))), .non) := by
  rw [phi_at hw]
  have hle : T1.length * T2.length ≤ 4000 := Nat.le_trans (Nat.mul_le_mul ok1.le ok2.le) h4
  have lb := least_by_run (W := Phi TT n (d + 2)) (n := n) (h1.order n d) hN (enc := encP) encP_ok (nx := nx2 T1 T2) (e := fun p => f (inE s1 p.1) (inE s2 p.2)) (P := P2 T1 T2) (U := U2 T1 T2) (k := k) hk (nx2_closed ok1.tab ok2.tab) (nx2_len ok1.tab ok2.tab) U2_mem
    (by rw [U2_len]; exact hle) lt (c := cw) (env := [.fn c [], mD lt T1 s1, mD l2 T2 s2]) (fun p => noFns_nats _) (fun p hp => ⟨.lst ((nx2 T1 T2 p).map encP), .non, by rw [phi_at hcw]; exact cloW_run n hc s1 s2 hp, rfl, noFns_pairs _⟩) (b := (0, 0)) ⟨ok1.pos, ok2.pos⟩
  rw [lg2 (N := 0) ok1 ok2 f, ← phi_at h1.lb] at lb
  refine runD_fin (F := { g := "least_by", es := (.cons (.op2 .at (.var 0) (.int 0)) (.cons (.tup (.cons (.int 0) (.cons (.int 0) .nil))) .nil)), c := cw, js := [2, 0, 1], i := some 3 }) (r := [some ⟨mD lt T1 s1, .fz⟩, some ⟨mD l2 T2 s2, .fz⟩, some ⟨.fn c [], .fz⟩, none]) (r2 := [some ⟨mD lt T1 s1, .fz⟩, some ⟨mD l2 T2 s2, .fz⟩, some ⟨.fn c [], .fz⟩, none]) rfl rfl rfl ?_ rfl
  have m1 : noFn (mD lt T1 s1) = true := noFn_mD hlt _ _
  have m2 : noFn (mD l2 T2 s2) = true := noFn_mD hl2 _ _
  have nf : noFns [lt, encP (0, 0)] = true := by show (noFn lt && (noFns (nats [0, 0]) && true)) = true; rw [hlt, noFns_nats]; rfl
  have ev : ([.fn c [], mD lt T1 s1, mD l2 T2 s2] : List Dat).all envD = true := by
    show (true && (noFn (mD lt T1 s1) && (noFn (mD l2 T2 s2) && true))) = true
    rw [m1, m2]; rfl
  have a0 : semAt (mD lt T1 s1) (.int 0) = some (.val lt) := at_tup (i := 0) rfl
  show (if noFns [lt, encP (0, 0)] = true ∧ ([.fn c [], mD lt T1 s1, mD l2 T2 s2] : List Dat).all envD = true ∧ ((1 : Nat) = 0 → noFns [.fn c [], mD lt T1 s1, mD l2 T2 s2] = true) then ((Phi TT n (d + 2 + 1)).phi "least_by" [lt, encP (0, 0), .fn cw [.fn c [], mD lt T1 s1, mD l2 T2 s2]]).bind _ else none) = _
  rw [if_pos ⟨nf, ev, fun z => by cases z⟩]
  have lb : (Phi TT n (d + 2 + 1)).phi "least_by" [lt, encP (0, 0), .fn cw [.fn c [], mD lt T1 s1, mD l2 T2 s2]] = _ := lb
  rw [lb]
  have nm : noFn (cD n k lt (put2 k f (mL T1 s1) (mL T2 s2))) = true := noFn_mD hlt _ _
  generalize cD n k lt (put2 k f (mL T1 s1) (mL T2 s2)) = z at nm ⊢
  exact if_pos nm
/-- both, either, without -/
theorem two_phi {g : Str} {c cw : Nat} (hg : TT.lookup g = some (d_two c)) (hw : TT.lookup ("woven" : Str) = some (d_woven cw)) (hcw : TT.lookup (cloKey cw) = some d_cloW) {f : Bool → Bool → Bool} {T1 T2 : List (List Nat)} {s1 s2 : List Nat} (ok1 : McOk k N1 T1 s1) (ok2 : McOk k N2 T2 s2) (h4 : N1 * N2 ≤ 4000) (d : Nat) (hc : Chooses (Phi TT n (d + 1)) c f) :
    (Phi TT n (d + 5)).phi g [mD lt T1 s1, mD l2 T2 s2] = some (.val (cD n k lt (put2 k f (mL T1 s1) (mL T2 s2))), .non) := by
  have wv := woven_phi h1 hN hk hlt hl2 hw hcw ok1 ok2 h4 d hc
  rw [phi_at hg]
  refine runD_fin (F := { g := "woven", es := (.cons (.var 0) (.cons (.var 1) .nil)), c := c, js := [], i := none }) (r := [some ⟨mD lt T1 s1, .fz⟩, some ⟨mD l2 T2 s2, .fz⟩]) (r2 := [some ⟨mD lt T1 s1, .fz⟩, some ⟨mD l2 T2 s2, .fz⟩]) rfl rfl rfl ?_ rfl
  have m1 : noFn (mD lt T1 s1) = true := noFn_mD hlt _ _
  have m2 : noFn (mD l2 T2 s2) = true := noFn_mD hl2 _ _
  have nf : noFns [mD lt T1 s1, mD l2 T2 s2] = true := by show (noFn _ && (noFn _ && true)) = true; rw [m1, m2]; rfl
  show (if noFns [mD lt T1 s1, mD l2 T2 s2] = true ∧ ([] : List Dat).all envD = true ∧ ((0 : Nat) = 0 → noFns [] = true) then ((Phi TT n (d + 4)).phi "woven" [mD lt T1 s1, mD l2 T2 s2, .fn c []]).bind _ else none) = _
  rw [if_pos ⟨nf, rfl, fun _ => rfl⟩, wv]
  have nm : noFn (cD n k lt (put2 k f (mL T1 s1) (mL T2 s2))) = true := noFn_mD hlt _ _
  generalize cD n k lt (put2 k f (mL T1 s1) (mL T2 s2)) = z at nm ⊢
  exact if_pos nm
end
theorem choB {TT : List (Str × Df)} {n c : Nat} (h : TT.lookup (cloKey c) = some d_cloB) (d : Nat) : Chooses (Phi TT n (d + 1)) c (· && ·) := fun a b => ⟨.non, by rw [phi_at h]; cases a <;> cases b <;> rfl⟩
theorem choE {TT : List (Str × Df)} {n c : Nat} (h : TT.lookup (cloKey c) = some d_cloE) (d : Nat) : Chooses (Phi TT n (d + 1)) c (· || ·) := fun a b => ⟨.non, by rw [phi_at h]; cases a <;> cases b <;> rfl⟩
theorem choO {TT : List (Str × Df)} {n c : Nat} (h : TT.lookup (cloKey c) = some d_cloO) (d : Nat) : Chooses (Phi TT n (d + 1)) c (fun a b => a && !b) := fun a b => ⟨.non, by rw [phi_at h]; cases a <;> cases b <;> rfl⟩
end Dm

/-! G1: the draws of the laws k01 to k08. -/
namespace Dg
open PySem PySem.Spec PyProof.Rows L2 Dl
def d_state_behind : Df := { N := ["machine", "word", "state", "sign", "letters", "table", "ends"], ps := 2, io := none, body :=
    (.cons (.unp [4, 5, 6] (.var 0))
    (.cons (.set 2 (.int 0))
    (.cons (.for_ (.name 3) (.seq (.var 1)) (.cons (.set 2 (.op2 .at (.op2 .at (.var 5) (.var 2)) (.op2 .index (.var 4) (.var 3))))
    .nil) [0, 1, 3, 6])
    (.cons (.ret (.var 2))
    .nil)))) }
def d_has : Df := { N := ["machine", "word"], ps := 2, io := none, body :=
    (.cons (.ret (.op2 .isIn (.call "state_behind" (.cons (.var 0) (.cons (.var 1) .nil))) (.op2 .at (.var 0) (.int 2))))
    .nil) }
def d_law_stream : Df := { N := ["cell", "low"], ps := 1, io := none, body :=
    (.cons (.set 1 (.op2 .mod (.var 0) (.int 536870909)))
    (.cons (.set 1 (.op2 .mod (.op2 .add (.op2 .mul (.op2 .mod (.op2 .mul (.var 1) (.var 1)) (.int 536870909)) (.op2 .add (.var 1) (.int 7))) (.int 13)) (.int 536870909)))
    (.cons (.ret (.lst (.cons (.var 0) (.cons (.var 1) (.cons (.op1 .int (.op2 .ge (.var 0) (.op2 .pow (.int 10) (.int 18)))) .nil)))))
    .nil))) }
def d_law_take : Df := { N := ["row", "many", "got"], ps := 2, io := some 0, body :=
    (.cons (.ife (.cmp .eq (.op2 .at (.var 0) (.int 2)) (.int 1)) (.cons (.set 2 (.op2 .mod (.op2 .at (.var 0) (.int 0)) (.var 1)))
    (.cons (.setAt 0 (.int 0) (.op2 .div (.op2 .at (.var 0) (.int 0)) (.var 1)))
    (.cons (.ret (.var 2))
    .nil))) .nil)
    (.cons (.setAt 0 (.int 1) (.op2 .mod (.op2 .mul (.op2 .add (.op2 .at (.var 0) (.int 1)) (.int 7919)) (.op2 .add (.op2 .at (.var 0) (.int 1)) (.int 104729))) (.int 536870909)))
    (.cons (.ret (.op2 .mod (.op2 .div (.op2 .add (.op2 .mul (.op2 .at (.var 0) (.int 1)) (.int 48271)) (.int 11)) (.int 64)) (.var 1)))
    .nil))) }
def d_law_letters : Df := { N := ["row", "many", "left", "k"], ps := 1, io := some 0, body :=
    (.cons (.set 1 (.op2 .add (.int 1) (.call "_law_take" (.cons (.var 0) (.cons (.int 5) .nil)))))
    (.cons (.set 2 (.op1 .list (.str "abcdefghijklmnopqrstuvwxyz")))
    (.cons (.ife (.cmp .eq (.call "_law_take" (.cons (.var 0) (.cons (.int 2) .nil))) (.int 0)) (.cons (.set 2 (.cut (.cut (.var 2) (.yes (.call "_law_take" (.cons (.var 0) (.cons (.int 22) .nil)))) .no) .no (.yes (.var 1))))
    .nil) .nil)
    (.cons (.ret (.op2 .join (.str "") (.op1 .sorted (.comp [3] (.name 3) (.rng1 (.var 1)) .no (.pop 2 (.call "_law_take" (.cons (.var 0) (.cons (.op1 .len (.var 2)) .nil))))))))
    .nil)))) }
def d_law_machine : Df := { N := ["row", "letters", "most", "many", "table", "ends", "state", "sign"], ps := 3, io := some 0, body :=
    (.cons (.set 3 (.op2 .add (.int 1) (.call "_law_take" (.cons (.var 0) (.cons (.var 2) .nil)))))
    (.cons (.set 4 (.comp [6] (.name 6) (.rng1 (.var 3)) .no (.op1 .tuple (.comp [7] (.name 7) (.seq (.var 1)) .no (.call "_law_take" (.cons (.var 0) (.cons (.var 3) .nil)))))))
    (.cons (.set 5 (.comp [6] (.name 6) (.rng1 (.var 3)) (.yes (.cmp .eq (.call "_law_take" (.cons (.var 0) (.cons (.int 2) .nil))) (.int 1))) (.var 6)))
    (.cons (.ret (.tup (.cons (.var 1) (.cons (.op1 .tuple (.var 4)) (.cons (.op1 .tuple (.var 5)) .nil)))))
    .nil)))) }
def d_law_word : Df := { N := ["row", "letters", "most", "k"], ps := 3, io := some 0, body :=
    (.cons (.ret (.op2 .join (.str "") (.comp [3] (.name 3) (.rng1 (.call "_law_take" (.cons (.var 0) (.cons (.op2 .add (.var 2) (.int 1)) .nil)))) .no (.op2 .at (.var 1) (.call "_law_take" (.cons (.var 0) (.cons (.op1 .len (.var 1)) .nil)))))))
    .nil) }

/-- a stream of draws -/
def IsRow (d : Dat) : Prop := ∃ a b c : Int, d = .lst [.int a, .int b, .int c] ∧ 0 ≤ b ∧ b < 536870909 ∧ (c = 0 ∨ c = 1)
theorem take_run (W : Wd) (n : Nat) {row : Dat} {m : Int} (hr : IsRow row) (h0 : 0 < m) (h1 : m < 1073741824) :
    ∃ v row', runD W n d_law_take [row, .int m] = some (.val (.int v), row') ∧ 0 ≤ v ∧ v < m ∧ IsRow row' := by
  obtain ⟨a, b, c, rfl, hb0, hb1, hc⟩ := hr
  rcases hc with rfl | rfl
  · have hm : 0 ≤ (b + 7919) * (b + 104729) % 536870909 ∧ (b + 7919) * (b + 104729) % 536870909 < 536870909 := ⟨Int.emod_nonneg _ (by decide), Int.emod_lt_of_pos _ (by decide)⟩
    generalize hb' : (b + 7919) * (b + 104729) % 536870909 = b' at hm
    refine ⟨(b' * 48271 + 11) / 64 % m, .lst [.int a, .int b', .int 0], ?_, Int.emod_nonneg _ (by omega), Int.emod_lt_of_pos _ h0, a, b', 0, rfl, hm.1, hm.2, .inl rfl⟩
    have m1 := mul_eq (i := b + 7919) (j := b + 104729) (by omega)
    have m2 := mul_eq (i := b') (j := 48271) (by omega)
    simp [runD, bodyM, d_law_take, startR, look, res, sem2, semAt, atI, ixN, semEq, eqD, semMod, semAdd, semDiv, store, frz, leftR, pre2, runS_setAt, m1, hb', m2, h0]
  · refine ⟨a % m, .lst [.int (a / m), .int b, .int 1], ?_, Int.emod_nonneg _ (by omega), Int.emod_lt_of_pos _ h0, a / m, b, 1, rfl, hb0, hb1, .inr rfl⟩
    simp [runD, bodyM, d_law_take, startR, look, res, sem2, semAt, atI, ixN, semEq, eqD, semMod, semDiv, store, frz, leftR, pre2, runS_setAt, h0, h1]
theorem stream_run (W : Wd) (n : Nat) (cell : Int) : ∃ row, runD W n d_law_stream [.int cell] = some (.fresh row, .non) ∧ IsRow row := by
  have h1 : 0 ≤ cell % 536870909 ∧ cell % 536870909 < 536870909 := ⟨Int.emod_nonneg _ (by decide), Int.emod_lt_of_pos _ (by decide)⟩
  generalize hl : cell % 536870909 = low at h1
  have h2 : 0 ≤ low * low % 536870909 ∧ low * low % 536870909 < 536870909 := ⟨Int.emod_nonneg _ (by decide), Int.emod_lt_of_pos _ (by decide)⟩
  generalize hm : low * low % 536870909 = mid at h2
  have h3 : 0 ≤ (mid * (low + 7) + 13) % 536870909 ∧ (mid * (low + 7) + 13) % 536870909 < 536870909 := ⟨Int.emod_nonneg _ (by decide), Int.emod_lt_of_pos _ (by decide)⟩
  generalize hb : (mid * (low + 7) + 13) % 536870909 = b at h3
  have m1 := mul_eq (i := low) (j := low) (by omega)
  have m2 := mul_eq (i := mid) (j := low + 7) (by omega)
  refine ⟨.lst [.int cell, .int b, .int (if (10 : Int) ^ 18 ≤ cell then 1 else 0)], ?_, cell, b, _, rfl, h3.1, h3.2, ?_⟩
  · simp [runD, bodyM, d_law_stream, startR, look, res, sem1, semInt, sem2, semGe, semLe, semMod, semAdd, semPow, store, frz, leftR, pre2, hl, hm, hb, m1, m2]
  · split
    · exact .inr rfl
    · exact .inl rfl
structure HasTake (W : Wd) : Prop where
  io : W.io "_law_take" = some (some 0)
  run : ∀ (row : Dat) (m : Int), IsRow row → 0 < m → m < 1073741824 → ∃ v row', W.phi "_law_take" [row, .int m] = some (.val (.int v), row') ∧ 0 ≤ v ∧ v < m ∧ IsRow row'
def Low (c : Nat) : Prop := 97 ≤ c ∧ c ≤ 122
def sgL (cs : List Nat) : Dat := .lst ((cs.map sg).map .str)
theorem letters_comp {W : Wd} (hW : HasTake W) {row : Dat} {many : Nat} {left : List Nat} (hr : IsRow row) (h1 : many ≤ left.length) (h2 : left.length ≤ 26) (hl : ∀ c ∈ left, Low c) :
    ∃ cs row' left', Dl.run W (.comp [3] (.name 3) (.rng1 (.var 1)) .no (.pop 2 (.call "_law_take" (.cons (.var 0) (.cons (.op1 .len (.var 2)) .nil))))) [some ⟨row, .io⟩, some ⟨.int many, .fz⟩, some ⟨sgL left, .own⟩, none] =
      some (.fresh (sgL cs), [some ⟨row', .io⟩, some ⟨.int many, .fz⟩, some ⟨left', .own⟩, none]) ∧ cs.length = many ∧ (∀ c ∈ cs, Low c) ∧ IsRow row' := by
  have hs : sizeLine = 16777216 := sizeLine_eq
  have src : runI W (.rng1 (.var 1)) [some ⟨row, .io⟩, some ⟨.int many, .fz⟩, some ⟨sgL left, .own⟩, none] = some (rangeD 0 many, [some ⟨row, .io⟩, some ⟨.int many, .fz⟩, some ⟨sgL left, .own⟩, none]) := by
    rw [runI_rng1]
    simp [look, res]
    omega
  obtain ⟨xs, r', hc, hlen, hP, row', left', hr', e', _⟩ := compD_inv (f := turnC W [3] (.name 3) .no (.pop 2 (.call "_law_take" (.cons (.var 0) (.cons (.op1 .len (.var 2)) .nil))))) many
    (fun i r => ∃ row left, IsRow row ∧ r = [some ⟨row, .io⟩, some ⟨.int many, .fz⟩, some ⟨sgL left, .own⟩, none] ∧ many ≤ i + left.length ∧ left.length ≤ 26 ∧ ∀ c ∈ left, Low c)
    (fun x => ∃ c, x = .str (sg c) ∧ Low c) (rangeD 0 many) 0 _ (by rw [rangeD_len]; omega) ⟨row, left, hr, rfl, by omega, h2, hl⟩ (by
      rintro i d r hi hd ⟨row, left, hr, rfl, h1, h2, hl⟩
      obtain ⟨v, row', t, v0, v1, hr'⟩ := hW.run row left.length hr (by omega) (by omega)
      have hj : v.toNat < left.length := by omega
      refine ⟨.str (sg left[v.toNat]), [some ⟨row', .io⟩, some ⟨.int many, .fz⟩, some ⟨sgL (left.eraseIdx v.toNat), .own⟩, none], ?_, ⟨_, rfl, hl _ (List.getElem_mem hj)⟩, row', left.eraseIdx v.toNat, hr', rfl, ?_, ?_, fun c hc => hl c (List.mem_of_mem_eraseIdx hc)⟩
      · have hx : ixN left.length v = some v.toNat := ixN_of v0 v1
        simp [turnC, bindT, run_pop, look, isLst, sgL, res, frz, lend, resAll, giveBack, hW.io, sem1, semLen, t, wipeR, hx, List.getElem?_eq_getElem hj, erase_map]
      · rw [List.length_eraseIdx_of_lt hj]
        omega
      · rw [List.length_eraseIdx_of_lt hj]
        omega)
  obtain ⟨ys, rfl, hy⟩ := all_of (P := fun x => ∃ c, x = .str (sg c) ∧ Low c) (f := fun c => Dat.str (sg c)) fun x hx => by
    obtain ⟨c, e, hc⟩ := hP x hx
    exact ⟨c, e, c, e, hc⟩
  refine ⟨ys, row', sgL left', ?_, ?_, fun c hc => ?_, hr'⟩
  · rw [run_comp, src]
    show (compD _ _ (wipeR _ _)).bind _ = _
    have ew : wipeR [some ⟨row, .io⟩, some ⟨.int many, .fz⟩, some ⟨sgL left, .own⟩, none] [3] = [some ⟨row, .io⟩, some ⟨.int many, .fz⟩, some ⟨sgL left, .own⟩, none] := rfl
    rw [ew, hc, e']
    simp [back, look, sgL]
  · rw [List.length_map] at hlen
    rw [hlen, rangeD_len]
  · obtain ⟨c', e, h⟩ := hy c hc
    have : c = c' := by
      have := Dat.str.inj e
      have := congrArg (fun x : Str => x.cps.toList) this
      simpa [sg] using this
    subst this
    exact h
/-- the alphabet -/
def abc : List Nat := (List.range 26).map (97 + ·)
theorem abc_low : ∀ c ∈ abc, Low c := by unfold Low; decide
theorem letters_run {W : Wd} (n : Nat) (hW : HasTake W) {row : Dat} (hr : IsRow row) :
    ∃ (cs : List Nat) (row' : _), runD W n d_law_letters [row] = some (.val (.str ⟨cs.toArray⟩), row') ∧ 1 ≤ cs.length ∧ cs.length ≤ 5 ∧ (∀ c ∈ cs, Low c) ∧ IsRow row' := by
  obtain ⟨a, r1, t1, a0, a1, h1⟩ := hW.run row 5 hr (by decide) (by decide)
  obtain ⟨b, r2, t2, b0, b1, h2⟩ := hW.run r1 2 h1 (by decide) (by decide)
  have el : sem1 .list (.str "abcdefghijklmnopqrstuvwxyz") = some (.fresh (sgL abc)) := rfl
  have fin : ∀ (r3 : Dat) (left : List Nat), IsRow r3 → (1 + a).toNat ≤ left.length → left.length ≤ 26 → (∀ c ∈ left, Low c) → ∃ (cs : List Nat) (row' : _),
      runS W n (.ret (.op2 .join (.str "") (.op1 .sorted (.comp [3] (.name 3) (.rng1 (.var 1)) .no (.pop 2 (.call "_law_take" (.cons (.var 0) (.cons (.op1 .len (.var 2)) .nil)))))))) [some ⟨r3, .io⟩, some ⟨.int (1 + a), .fz⟩, some ⟨sgL left, .own⟩, none] = some (.ret (.val (.str ⟨cs.toArray⟩)) row') ∧ 1 ≤ cs.length ∧ cs.length ≤ 5 ∧ (∀ c ∈ cs, Low c) ∧ ∃ d, leftR d_law_letters row' = some d ∧ IsRow d := by
    intro r3 left h3 q1 q2 q3
    obtain ⟨cs, r4, left', hc, hl, hq, h4⟩ := letters_comp hW h3 q1 q2 q3
    have ea : (((1 + a).toNat : Nat) : Int) = 1 + a := by omega
    rw [ea] at hc
    refine ⟨sortN cs, [some ⟨r4, .io⟩, some ⟨.int (1 + a), .fz⟩, some ⟨left', .own⟩, none], ?_, ?_, ?_, ?_, r4, rfl, h4⟩
    · have e1 : sem1 .sorted (sgL cs) = some (.fresh (sgL (sortN cs))) := semSorted_sg cs
      have e2 : sem2 .join (.str "") (sgL (sortN cs)) = some (.val (.str ⟨(sortN cs).toArray⟩)) := semJoin_signs _ (by rw [(sortN_perm cs).length_eq]; omega)
      simp [hc, res, pre2, isStr, e1, e2]
    · rw [(sortN_perm cs).length_eq]; omega
    · rw [(sortN_perm cs).length_eq]; omega
    · intro c h
      exact hq c ((sortN_perm cs).mem_iff.mp h)
  by_cases hb : b = 0
  · subst hb
    obtain ⟨c, r3, t3, c0, c1, h3⟩ := hW.run r2 22 h2 (by decide) (by decide)
    have e1 : semCut (sgL abc) (some c) none = some (.fresh (sgL (abc.drop c.toNat))) := by
      have e : HT.sIx 26 0 (some c) = c.toNat := by
        unfold HT.sIx
        dsimp only
        rw [if_neg (by omega)]
        omega
      show some (Out.fresh (.lst (cutL _ _ _))) = _
      have el : (List.map Dat.str (List.map sg abc)).length = 26 := rfl
      unfold cutL sgL
      rw [el, e, HT.sIx_none, List.take_of_length_le, drop_map, drop_map]
      rw [List.length_drop, el]
      omega
    have e2 : semCut (sgL (abc.drop c.toNat)) none (some (1 + a)) = some (.fresh (sgL ((abc.drop c.toNat).take (1 + a).toNat))) := by
      show some (Out.fresh (.lst (cutL _ _ _))) = _
      have el : (List.map Dat.str (List.map sg (abc.drop c.toNat))).length = 26 - c.toNat := by simp [abc]
      have e : HT.sIx (26 - c.toNat) (26 - c.toNat) (some (1 + a)) = (1 + a).toNat := by
        unfold HT.sIx
        dsimp only
        rw [if_neg (by omega)]
        omega
      unfold cutL sgL
      rw [el, e, HT.sIx_none, List.drop_zero, Nat.sub_zero, List.map_take, List.map_take]
    have ll : ((abc.drop c.toNat).take (1 + a).toNat).length = (1 + a).toNat := by
      simp [abc]
      omega
    obtain ⟨cs, row', hs, q1, q2, q3, d, q4, q5⟩ := fin r3 ((abc.drop c.toNat).take (1 + a).toNat) h3 (by rw [ll]; exact Nat.le_refl _) (by rw [ll]; omega) fun x hx => abc_low x (List.mem_of_mem_drop (List.mem_of_mem_take hx))
    refine ⟨cs, d, ?_, q1, q2, q3, q5⟩
    refine runD_val rfl ?_ q4
    refine (runB_next (r' := [some ⟨r1, .io⟩, some ⟨.int (1 + a), .fz⟩, none, none]) ?_).trans ?_
    · simp [startR, d_law_letters, look, res, lend, resAll, giveBack, hW.io, t1, frz, sem2, semAdd, pre2, store]
    refine (runB_next (r' := [some ⟨r1, .io⟩, some ⟨.int (1 + a), .fz⟩, some ⟨sgL abc, .own⟩, none]) ?_).trans ?_
    · simp [res, el, store]
    refine (runB_next (r' := [some ⟨r3, .io⟩, some ⟨.int (1 + a), .fz⟩, some ⟨sgL ((abc.drop c.toNat).take (1 + a).toNat), .own⟩, none]) ?_).trans ?_
    · simp [look, res, lend, resAll, giveBack, hW.io, t2, t3, frz, sem2, semEq, eqD, e1, e2, store]
    exact runB_ret hs
  · obtain ⟨cs, row', hs, q1, q2, q3, d, q4, q5⟩ := fin r2 abc h2 (by show _ ≤ 26; omega) (by decide) abc_low
    refine ⟨cs, d, ?_, q1, q2, q3, q5⟩
    refine runD_val rfl ?_ q4
    refine (runB_next (r' := [some ⟨r1, .io⟩, some ⟨.int (1 + a), .fz⟩, none, none]) ?_).trans ?_
    · simp [startR, d_law_letters, look, res, lend, resAll, giveBack, hW.io, t1, frz, sem2, semAdd, pre2, store]
    refine (runB_next (r' := [some ⟨r1, .io⟩, some ⟨.int (1 + a), .fz⟩, some ⟨sgL abc, .own⟩, none]) ?_).trans ?_
    · simp [res, el, store]
    refine (runB_next (r' := [some ⟨r2, .io⟩, some ⟨.int (1 + a), .fz⟩, some ⟨sgL abc, .own⟩, none]) ?_).trans ?_
    · simp [look, res, lend, resAll, giveBack, hW.io, t2, frz, sem2, semEq, eqD, hb]
    exact runB_ret hs

/-- a comprehension whose turns draw -/
theorem comp_draw {f : Dat → Rho → Option (Option Dat × Rho)} (st : Dat → Rho) (P : Dat → Prop) (ds : List Dat) {row : Dat} (hr : IsRow row)
    (h : ∀ d ∈ ds, ∀ row, IsRow row → ∃ x row', f d (st row) = some (some x, st row') ∧ P x ∧ IsRow row') : ∃ xs row', compD f ds (st row) = some (xs, st row') ∧ xs.length = ds.length ∧ (∀ x ∈ xs, P x) ∧ IsRow row' := by
  obtain ⟨xs, r', h1, h2, h3, row', h4, rfl⟩ := compD_inv (f := f) ds.length (fun _ r => ∃ row, IsRow row ∧ r = st row) P ds 0 (st row) (by omega) ⟨row, hr, rfl⟩ (by
    rintro i d r _ hd ⟨row, hr, rfl⟩
    obtain ⟨x, row', q1, q2, q3⟩ := h d hd row hr
    exact ⟨x, st row', q1, q2, row', q3, rfl⟩)
  exact ⟨xs, row', h1, h2, h3, h4⟩
theorem comp_drawF {f : Dat → Rho → Option (Option Dat × Rho)} (st : Dat → Rho) (P : Dat → Prop) (ds : List Dat) {row : Dat} (hr : IsRow row)
    (h : ∀ d ∈ ds, ∀ row, IsRow row → ∃ x row', f d (st row) = some (x, st row') ∧ (∀ y, x = some y → P y) ∧ IsRow row') : ∃ xs row', compD f ds (st row) = some (xs, st row') ∧ xs.length ≤ ds.length ∧ (∀ x ∈ xs, P x) ∧ IsRow row' := by
  obtain ⟨xs, r', h1, h2, h3, row', h4, rfl⟩ := compD_filter (f := f) (fun r => ∃ row, IsRow row ∧ r = st row) P ds (st row) ⟨row, hr, rfl⟩ (by
    rintro d r hd ⟨row, hr, rfl⟩
    obtain ⟨x, row', q1, q2, q3⟩ := h d hd row hr
    exact ⟨x, st row', q1, q2, row', q3, rfl⟩)
  exact ⟨xs, row', h1, h2, h3, h4⟩
def IntIn (m : Int) (x : Dat) : Prop := ∃ v : Int, x = .int v ∧ 0 ≤ v ∧ v < m
def RowIn (L : Nat) (m : Int) (x : Dat) : Prop := ∃ ds, x = .tup ds ∧ ds.length = L ∧ ∀ d ∈ ds, IntIn m d
structure Mach (cs : List Nat) (d : Dat) (rows ends : List Dat) : Prop where
  eq : d = .tup [.str ⟨cs.toArray⟩, .tup rows, .tup ends]
  pos : 0 < rows.length
  rws : ∀ x ∈ rows, RowIn cs.length rows.length x
  nds : ∀ x ∈ ends, IntIn rows.length x
theorem small {n : Nat} (h : n ≤ 1000) : n ≤ sizeLine := small_line h
theorem machine_run {W : Wd} (n : Nat) (hW : HasTake W) {row : Dat} {cs : List Nat} {most : Int} (hr : IsRow row) (h0 : 0 < most) (h1 : most ≤ 900) :
    ∃ m rows ends row', runD W n d_law_machine [row, .str ⟨cs.toArray⟩, .int most] = some (.val m, row') ∧ Mach cs m rows ends ∧ IsRow row' ∧ (rows.length : Int) ≤ most := by
  obtain ⟨a, r1, t1, a0, a1, hr1⟩ := hW.run row most hr h0 (by omega)
  let st : Dat → Rho := fun row => [some ⟨row, .io⟩, some ⟨.str ⟨cs.toArray⟩, .fz⟩, some ⟨.int most, .fz⟩, some ⟨.int (1 + a), .fz⟩, none, none, none, none]
  have inner : ∀ (d row : Dat), IsRow row → ∃ ds row', Dl.run W (.comp [7] (.name 7) (.seq (.var 1)) .no (.call "_law_take" (.cons (.var 0) (.cons (.var 3) .nil)))) ((st row).set 6 (some ⟨d, .fz⟩)) = some (.fresh (.lst ds), (st row').set 6 (some ⟨d, .fz⟩)) ∧ ds.length = cs.length ∧ (∀ x ∈ ds, IntIn (1 + a) x) ∧ IsRow row' := by
    intro d row hr
    obtain ⟨ds, row', q1, q2, q3, q4⟩ := comp_draw (f := turnC W [7] (.name 7) .no (.call "_law_take" (.cons (.var 0) (.cons (.var 3) .nil)))) (fun row => (st row).set 6 (some ⟨d, .fz⟩)) (IntIn (1 + a)) ((cs.map sg).map .str) hr (by
      intro e _ row hr
      obtain ⟨v, row', t, v0, v1, hr'⟩ := hW.run row (1 + a) hr (by omega) (by omega)
      refine ⟨.int v, row', ?_, ⟨v, rfl, v0, v1⟩, hr'⟩
      simp [st, turnC, bindT, look, res, frz, lend, resAll, giveBack, hW.io, t, wipeR])
    refine ⟨ds, row', ?_, by rw [q2, List.length_map, List.length_map], q3, q4⟩
    rw [run_comp]
    simp only [runI_seq, run_var, st, look, List.set, List.getElem?_cons_succ, List.getElem?_cons_zero, Option.bind_some, frz, items, wipeR, signs_eq] at q1 ⊢
    simp [st, look, frz, items, signs_eq, wipeR, back] at q1 ⊢
    rw [q1]
    simp [back, look]
  obtain ⟨rows, r2, q1, q2, q3, hr2⟩ := comp_draw (f := turnC W [6] (.name 6) .no (.op1 .tuple (.comp [7] (.name 7) (.seq (.var 1)) .no (.call "_law_take" (.cons (.var 0) (.cons (.var 3) .nil)))))) st (RowIn cs.length (1 + a)) (rangeD 0 (1 + a).toNat) hr1 (by
      intro e _ row hr
      obtain ⟨ds, row', q1, q2, q3, hr'⟩ := inner e row hr
      refine ⟨.tup ds, row', ?_, ⟨ds, rfl, q2, q3⟩, hr'⟩
      simp [st, turnC, bindT, look, res, frz, wipeR, sem1, semTuple] at q1 ⊢
      rw [q1]
      simp [res, frz, sem1, semTuple])
  have ea : (((1 + a).toNat : Nat) : Int) = 1 + a := by omega
  have hl : rows.length = (1 + a).toNat := by rw [q2, rangeD_len]
  let st2 : Dat → Rho := fun row => (st row).set 4 (some ⟨.lst rows, .own⟩)
  obtain ⟨ends, r3, p1, p2, p3, hr3⟩ := comp_drawF (f := turnC W [6] (.name 6) (.yes (.cmp .eq (.call "_law_take" (.cons (.var 0) (.cons (.int 2) .nil))) (.int 1))) (.var 6)) st2 (IntIn (1 + a)) (rangeD 0 (1 + a).toNat) hr2 (by
      intro e he row hr
      obtain ⟨k, hk, rfl⟩ := rangeD_mem he
      obtain ⟨v, row', t, v0, v1, hr'⟩ := hW.run row 2 hr (by decide) (by decide)
      refine ⟨if v = 1 then some (.int (0 + (k : Int))) else none, row', ?_, ?_, hr'⟩
      · by_cases hv : v = 1
        · simp [st2, st, turnC, bindT, look, res, frz, lend, resAll, giveBack, hW.io, t, wipeR, sem2, semEq, eqD, hv]
        · simp [st2, st, turnC, bindT, look, res, frz, lend, resAll, giveBack, hW.io, t, wipeR, sem2, semEq, eqD, hv]
      · intro y hy
        split at hy
        · cases hy
          exact ⟨_, rfl, by omega, by omega⟩
        · cases hy)
  have src : ∀ (r : Rho), look r 3 = some ⟨.int (1 + a), .fz⟩ → runI W (.rng1 (.var 3)) r = some (rangeD 0 (1 + a).toNat, r) := by
    intro r h
    have := small_line (n := (1 + a).toNat) (by omega)
    simp [runI_rng1, h, res]
    omega
  refine ⟨.tup [.str ⟨cs.toArray⟩, .tup rows, .tup ends], rows, ends, r3, ?_, ⟨rfl, by omega, by rw [hl, ea]; exact q3, by rw [hl, ea]; exact p3⟩, hr3, by rw [hl, ea]; omega⟩
  refine runD_val (r := (((st2 r3).set 5 (some ⟨.lst ends, .own⟩)))) rfl ?_ rfl
  refine (runB_next (r' := st r1) ?_).trans ?_
  · simp [st, startR, d_law_machine, look, res, lend, resAll, giveBack, hW.io, t1, frz, sem2, semAdd, pre2, store]
  refine (runB_next (r' := st2 r2) ?_).trans ?_
  · rw [runS_set, run_comp, src _ rfl]
    show (Option.bind ((compD _ _ (st r1)).bind _) _) = _
    rw [q1]
    simp [st2, st, back, look, store]
  refine (runB_next (r' := (st2 r3).set 5 (some ⟨.lst ends, .own⟩)) ?_).trans ?_
  · rw [runS_set, run_comp, src _ rfl]
    show (Option.bind ((compD _ _ (st2 r2)).bind _) _) = _
    rw [p1]
    simp [st2, st, back, look, store]
  simp [st2, st, look, res, frz, sem1, semTuple]
theorem word_run {W : Wd} (n : Nat) (hW : HasTake W) {row : Dat} {cs : List Nat} {most : Int} (hr : IsRow row) (hc : 0 < cs.length) (hc2 : cs.length ≤ 900) (h0 : 0 ≤ most) (h1 : most ≤ 900) :
    ∃ (w : List Nat) (row' : _), runD W n d_law_word [row, .str ⟨cs.toArray⟩, .int most] = some (.val (.str ⟨w.toArray⟩), row') ∧ (∀ c ∈ w, c ∈ cs) ∧ IsRow row' := by
  obtain ⟨a, r1, t1, a0, a1, hr1⟩ := hW.run row (most + 1) hr (by omega) (by omega)
  let st : Dat → Rho := fun row => [some ⟨row, .io⟩, some ⟨.str ⟨cs.toArray⟩, .fz⟩, some ⟨.int most, .fz⟩, none]
  obtain ⟨xs, r2, q1, q2, q3, hr2⟩ := comp_draw (f := turnC W [3] (.name 3) .no (.op2 .at (.var 1) (.call "_law_take" (.cons (.var 0) (.cons (.op1 .len (.var 1)) .nil))))) st (fun x => ∃ c, x = .str (sg c) ∧ c ∈ cs) (rangeD 0 a.toNat) hr1 (by
      intro e he row hr
      obtain ⟨v, row', t, v0, v1, hr'⟩ := hW.run row cs.length hr (by omega) (by omega)
      obtain ⟨c, hc, e⟩ := semAt_str v0 v1
      refine ⟨.str (sg c), row', ?_, ⟨c, rfl, hc⟩, hr'⟩
      have el : (⟨cs.toArray⟩ : Str).length = cs.length := rfl
      simp [st, turnC, bindT, look, res, frz, lend, resAll, giveBack, hW.io, sem1, semLen, el, t, wipeR, sem2, e, pre2])
  obtain ⟨w, rfl, hw⟩ := all_of (P := fun x => ∃ c, x = .str (sg c) ∧ c ∈ cs) (f := fun c => Dat.str (sg c)) fun x hx => by
    obtain ⟨c, e, hc⟩ := q3 x hx
    exact ⟨c, e, c, e, hc⟩
  have hlen : w.length = a.toNat := by rw [List.length_map, rangeD_len] at q2; exact q2
  refine ⟨w, r2, ?_, fun c hc => ?_, hr2⟩
  · refine runD_val (r := st r2) rfl ?_ rfl
    refine runB_ret ?_
    have src : runI W (.rng1 (.call "_law_take" (.cons (.var 0) (.cons (.op2 .add (.var 2) (.int 1)) .nil)))) (st row) = some (rangeD 0 a.toNat, st r1) := by
      have := small_line (n := a.toNat) (by omega)
      simp [runI_rng1, st, look, res, frz, lend, resAll, giveBack, hW.io, sem2, semAdd, pre2, t1]
      omega
    have e2 : semJoin (.str "") (.lst (w.map fun c => Dat.str (sg c))) = some (.val (.str ⟨w.toArray⟩)) := by
      have := semJoin_signs w (by omega)
      rw [List.map_map] at this
      exact this
    have e3 : Dl.run W (.comp [3] (.name 3) (.rng1 (.call "_law_take" (.cons (.var 0) (.cons (.op2 .add (.var 2) (.int 1)) .nil)))) .no (.op2 .at (.var 1) (.call "_law_take" (.cons (.var 0) (.cons (.op1 .len (.var 1)) .nil))))) (startR d_law_word [row, .str ⟨cs.toArray⟩, .int most]) = some (.fresh (.lst (w.map fun c => Dat.str (sg c))), st r2) := by
      rw [run_comp]
      show Option.bind (runI W _ (st row)) _ = _
      rw [src]
      show Option.bind (compD _ _ (st r1)) _ = _
      rw [q1]
      simp [st, back, look]
    rw [runS_ret, run_op2, run_str]
    simp [res, pre2, isStr, e3, sem2, e2]
  · obtain ⟨c', e, h⟩ := hw c hc
    have : c = c' := by
      have := Dat.str.inj e
      have := congrArg (fun x : Str => x.cps.toList) this
      simpa [sg] using this
    subst this
    exact h
end Dg

/-! G2: drawn machines; has. -/
namespace Dg
open PySem PySem.Spec PyProof.Rows L2 Dl Dm
def tx (cs : List Nat) : Dat := .str ⟨cs.toArray⟩
theorem nats_of {m : Int} {xs : List Dat} (h : ∀ x ∈ xs, IntIn m x) : ∃ l : List Nat, xs = nats l ∧ ∀ s ∈ l, (s : Int) < m := by
  obtain ⟨ys, e, hy⟩ := all_of (P := IntIn m) (f := fun s : Nat => Dat.int (s : Nat)) (xs := xs) fun x hx => by
    obtain ⟨v, rfl, v0, v1⟩ := h x hx
    exact ⟨v.toNat, by rw [Int.toNat_of_nonneg v0], v, rfl, v0, v1⟩
  refine ⟨ys, e, fun s hs => ?_⟩
  obtain ⟨v, e2, _, v1⟩ := hy s hs
  cases e2
  exact v1
theorem mach_md {cs : List Nat} {m : Dat} {rows ends : List Dat} (h : Mach cs m rows ends) {N : Nat} (hN : (rows.length : Int) ≤ (N : Nat)) : ∃ T es, m = mD (tx cs) T es ∧ McOk cs.length N T es := by
  obtain ⟨T, eT, hT⟩ := all_of (P := RowIn cs.length rows.length) (f := tD) (xs := rows) fun x hx => by
    obtain ⟨ds, rfl, l, q⟩ := h.rws x hx
    obtain ⟨r, rfl, _⟩ := nats_of q
    exact ⟨r, rfl, _, rfl, l, q⟩
  obtain ⟨es, eE, hE⟩ := nats_of h.nds
  have lT : rows.length = T.length := by rw [eT, List.length_map]
  refine ⟨T, es, by rw [h.eq, eT, eE]; rfl, ⟨⟨fun r hr => ?_, fun r hr s hs => ?_⟩, by have := h.pos; omega, by omega, fun s hs => by have := hE s hs; omega⟩⟩
  · obtain ⟨ds, e, l, _⟩ := hT r hr
    cases e
    rw [nats_len] at l
    exact l
  · obtain ⟨ds, e, _, q⟩ := hT r hr
    cases e
    obtain ⟨v, e2, _, v1⟩ := q (.int (s : Nat)) (List.mem_map.mpr ⟨s, hs, rfl⟩)
    cases e2
    omega
/-! ### has -/
def ixS (cs : List Nat) (c : Nat) : Nat := (Txt.index0 ⟨cs.toArray⟩ (sg c)).getD 0
theorem ixS_ok {cs : List Nat} {c : Nat} (h : c ∈ cs) : semIndex (tx cs) (.str (sg c)) = some (.val (.int (ixS cs c : Nat))) ∧ ixS cs c < cs.length := by
  obtain ⟨k, e, hk⟩ := index_one (x := ⟨cs.toArray⟩) (c := c) h
  have ek : ixS cs c = k := by
    unfold ixS
    show (Txt.index0 ⟨cs.toArray⟩ ⟨#[c]⟩).getD 0 = k
    rw [e]
    rfl
  rw [ek]
  refine ⟨?_, hk⟩
  show (Txt.index0 ⟨cs.toArray⟩ ⟨#[c]⟩).map (fun k : Nat => Out.val (.int (k : Nat))) = _
  rw [e]
  rfl
def dl (T : List (List Nat)) (s : Nat) (l : List Nat) : Nat := l.foldl (fun s a => (nxT T s).getD a 0) s
theorem dl_ok {k : Nat} {T : List (List Nat)} (hT : Tab k T) {e : Nat → Bool} : ∀ (l : List Nat) (s : Nat), s < T.length → (∀ a ∈ l, a < k) → dl T s l < T.length ∧ lang (nxT T) e l s = e (dl T s l)
  | [], s, hs, _ => ⟨hs, rfl⟩
  | a :: l, s, hs, h => by
    have ha := h a (List.mem_cons_self ..)
    have hl := hT.nxlen hs
    have g : (nxT T s)[a]? = some ((nxT T s).getD a 0) := by
      rw [List.getD_eq_getElem?_getD, List.getElem?_eq_getElem (by omega)]
      rfl
    have ih := dl_ok hT (e := e) l ((nxT T s).getD a 0) (hT.nxlow hs (List.mem_of_getElem? g)) fun b hb => h b (List.mem_cons_of_mem _ hb)
    refine ⟨ih.1, ?_⟩
    unfold lang
    rw [g]
    exact ih.2
theorem behind_run (W : Wd) (n : Nat) {cs : List Nat} {N : Nat} {T : List (List Nat)} {es : List Nat} (ok : McOk cs.length N T es) {w : List Nat} (hw : ∀ c ∈ w, c ∈ cs) :
    runD W n d_state_behind [mD (tx cs) T es, tx w] = some (.val (.int (dl T 0 (w.map (ixS cs)) : Nat)), .non) := by
  let st : Nat → Rho := fun s => [none, none, some ⟨.int (s : Nat), .fz⟩, none, some ⟨tx cs, .fz⟩, some ⟨.tup (T.map tD), .fz⟩, none]
  have key : ∀ (w : List Nat), (∀ c ∈ w, c ∈ cs) → ∀ s, s < T.length → forD (stepF W n (.name 3) (.cons (.set 2 (.op2 .at (.op2 .at (.var 5) (.var 2)) (.op2 .index (.var 4) (.var 3)))) .nil)) [0, 1, 3, 6] ((w.map sg).map .str) (st s) = some (.next (st (dl T s (w.map (ixS cs))))) := by
    intro w
    induction w with
    | nil => exact fun _ s _ => rfl
    | cons c w ih =>
      intro hw s hs
      obtain ⟨e1, hi⟩ := ixS_ok (hw c (List.mem_cons_self ..))
      have e2 := row_at hs
      have hl := ok.tab.nxlen hs
      have g : (nxT T s)[ixS cs c]? = some ((nxT T s).getD (ixS cs c) 0) := by
        rw [List.getD_eq_getElem?_getD, List.getElem?_eq_getElem (by omega)]
        rfl
      have e3 : semAt (tD (nxT T s)) (.int (ixS cs c : Nat)) = some (.val (.int ((nxT T s).getD (ixS cs c) 0 : Nat))) := at_tup (by unfold nats; rw [List.getElem?_map, g]; rfl)
      have tn : stepF W n (.name 3) (.cons (.set 2 (.op2 .at (.op2 .at (.var 5) (.var 2)) (.op2 .index (.var 4) (.var 3)))) .nil) (.str (sg c)) (st s) = some (.next [none, none, some ⟨.int ((nxT T s).getD (ixS cs c) 0 : Nat), .fz⟩, some ⟨.str (sg c), .fz⟩, some ⟨tx cs, .fz⟩, some ⟨.tup (T.map tD), .fz⟩, none]) := by
        have pi : pre2 .index (tx cs) = true := rfl
        simp only [st]
        generalize tx cs = z1 at e1 pi ⊢
        generalize Dat.tup (T.map tD) = z2 at e2 ⊢
        generalize tD (nxT T s) = z3 at e2 e3 ⊢
        have pa : ∀ d, pre2 .at d = true := fun _ => rfl
        simp [stepF, bindT, look, res, sem2, pi, pa, e1, e2, e3, store]
      rw [List.map_cons, List.map_cons, forD, tn]
      exact ih (fun d hd => hw d (List.mem_cons_of_mem _ hd)) _ (ok.tab.nxlow hs (List.mem_of_getElem? g))
  refine runD_at (r := st (dl T 0 (w.map (ixS cs)))) (j := 2) rfl ?_ rfl rfl
  show runB W n _ [some ⟨mD (tx cs) T es, .fz⟩, some ⟨tx w, .fz⟩, none, none, none, none, none] = _
  refine (runB_next (r' := [some ⟨mD (tx cs) T es, .fz⟩, some ⟨tx w, .fz⟩, none, none, some ⟨tx cs, .fz⟩, some ⟨.tup (T.map tD), .fz⟩, some ⟨.tup (nats es), .fz⟩]) rfl).trans ?_
  refine (runB_next (r' := [some ⟨mD (tx cs) T es, .fz⟩, some ⟨tx w, .fz⟩, some ⟨.int 0, .fz⟩, none, some ⟨tx cs, .fz⟩, some ⟨.tup (T.map tD), .fz⟩, some ⟨.tup (nats es), .fz⟩]) rfl).trans ?_
  refine (runB_next (r' := st (dl T 0 (w.map (ixS cs)))) ?_).trans rfl
  rw [runS_for]
  exact key w hw 0 ok.pos
theorem has_phi {TT : List (Str × Df)} (h1 : TT.lookup ("has" : Str) = some d_has) (h2 : TT.lookup ("state_behind" : Str) = some d_state_behind) {n d : Nat} {cs : List Nat} {N : Nat} {T : List (List Nat)} {es : List Nat} (ok : McOk cs.length N T es) {w : List Nat} (hw : ∀ c ∈ w, c ∈ cs) :
    (Phi TT n (d + 2)).phi "has" [mD (tx cs) T es, tx w] = some (.val (.bl (mL T es (w.map (ixS cs)))), .non) := by
  rw [phi_at h1]
  have hb := behind_run (Phi TT n d) n ok hw
  rw [← phi_at h2] at hb
  have hio : (Phi TT n (d + 1)).io "state_behind" = some none := io_at h2
  have hl := (dl_ok ok.tab (e := inE es) (w.map (ixS cs)) 0 ok.pos fun a ha => by
    obtain ⟨c, hc, rfl⟩ := List.mem_map.mp ha
    exact (ixS_ok (hw c hc)).2).2
  have e1 := isIn_nats (dl T 0 (w.map (ixS cs))) es
  have e2 : semAt (mD (tx cs) T es) (.int 2) = some (.val (.tup (nats es))) := at_tup (i := 2) rfl
  have em : mL T es (w.map (ixS cs)) = inE es (dl T 0 (w.map (ixS cs))) := hl
  rw [em]
  refine runD_val (r := [some ⟨mD (tx cs) T es, .fz⟩, some ⟨tx w, .fz⟩]) rfl ?_ rfl
  show runB _ n _ [some ⟨mD (tx cs) T es, .fz⟩, some ⟨tx w, .fz⟩] = _
  refine runB_ret ?_
  generalize mD (tx cs) T es = z1 at hb e2 ⊢
  generalize Dat.tup (nats es) = z2 at e1 e2 ⊢
  generalize tx w = z3 at hb ⊢
  have p1 : ∀ d, pre2 .isIn d = true := fun _ => rfl
  have p2 : ∀ d, pre2 .at d = true := fun _ => rfl
  simp [hio, look, frz, res, resAll, hb, giveBack, sem2, p1, p2, e1, e2]
end Dg

/-! G3: machines known by their language. -/
namespace Dg
open PySem PySem.Spec PyProof.Rows L2 Dl Dm
def IsM (N : Nat) (cs : List Nat) (m : Dat) (L : Lg) : Prop := ∃ T es, m = mD (tx cs) T es ∧ McOk cs.length N T es ∧ mL T es = L
/-- .. it is the one machine -/
def IsC (n N : Nat) (cs : List Nat) (m : Dat) (L : Lg) : Prop := m = cD n cs.length (tx cs) L ∧ IsM N cs m L
theorem IsM.mono {N N' : Nat} {cs : List Nat} {m : Dat} {L : Lg} (h : IsM N cs m L) (hN : N ≤ N') : IsM N' cs m L := by
  obtain ⟨T, es, e, ok, el⟩ := h
  exact ⟨T, es, e, ⟨ok.tab, ok.pos, Nat.le_trans ok.le hN, ok.low⟩, el⟩
section
variable {TT : List (Str × Df)} (h1 : Has1 TT) {n : Nat} (hN : 5000 ≤ n) {cs : List Nat} (hk : cs.length ≤ 1000) {N1 N2 : Nat}
include h1 hN hk
theorem two_is {g : Str} {c cw : Nat} (hg : TT.lookup g = some (d_two c)) (hw : TT.lookup ("woven" : Str) = some (d_woven cw)) (hcw : TT.lookup (cloKey cw) = some d_cloW) {f : Bool → Bool → Bool} {m1 m2 : Dat} {L1 L2 : Lg} (i1 : IsM N1 cs m1 L1) (i2 : IsM N2 cs m2 L2) (h4 : N1 * N2 ≤ 4000) (d : Nat) (hc : Chooses (Phi TT n (d + 1)) c f) :
    ∃ m, (Phi TT n (d + 5)).phi g [m1, m2] = some (.val m, .non) ∧ IsC n (N1 * N2) cs m (put2 cs.length f L1 L2) := by
  obtain ⟨T1, s1, rfl, ok1, rfl⟩ := i1
  obtain ⟨T2, s2, rfl, ok2, rfl⟩ := i2
  have cn := canon_ok (nx := nx2 T1 T2) (e := fun p => f (inE s1 p.1) (inE s2 p.2)) (P := P2 T1 T2) (U := U2 T1 T2) (n := n) (k := cs.length) (N := N1 * N2) (b := (0, 0)) ⟨ok1.pos, ok2.pos⟩ (nx2_closed ok1.tab ok2.tab) (nx2_len ok1.tab ok2.tab) U2_mem (by rw [U2_len]; exact Nat.mul_le_mul ok1.le ok2.le) (by omega)
  rw [lg2 (N := 0) ok1 ok2 f] at cn
  exact ⟨_, two_phi h1 hN hk rfl rfl hg hw hcw ok1 ok2 h4 d hc, rfl, _, _, rfl, cn.1, cn.2⟩
theorem one_is {f : Str} {c : Nat} {D : Df} (hf : TT.lookup f = some (d_least c)) (hc : TT.lookup (cloKey c) = some D) (g : Bool → Bool)
    (hD : ∀ (W : Wd) (T : List (List Nat)) (es : List Nat) (s : Nat), s < T.length → runD W n D [.int (s : Nat), .tup (nats es), .tup (T.map tD)] = some (.val (.tup [.bl (g (inE es s)), tD (nxT T s)]), .non)) {m1 : Dat} {L1 : Lg} (i1 : IsM N1 cs m1 L1) (h4 : N1 ≤ 4000) (d : Nat) :
    ∃ m, (Phi TT n (d + 4)).phi f [m1] = some (.val m, .non) ∧ IsC n N1 cs m (put1 cs.length g L1) := by
  obtain ⟨T, es, rfl, ok, rfl⟩ := i1
  have cn := canon_ok (nx := nxT T) (e := fun s => g (inE es s)) (P := PT T) (U := List.range T.length) (n := n) (k := cs.length) (N := N1) (b := 0) ok.pos (fun s hs y hy => ok.tab.nxlow hs hy) (fun s hs => ok.tab.nxlen hs) (fun s hs => List.mem_range.mpr hs) (by rw [List.length_range]; exact ok.le) (by omega)
  rw [lg1 ok g] at cn
  exact ⟨_, one_phi h1 hN hk rfl hf hc g ok h4 (fun W s hs => hD W T es s hs) d, rfl, _, _, rfl, cn.1, cn.2⟩
end
theorem onK_ix {cs w : List Nat} (hw : ∀ c ∈ w, c ∈ cs) : onK cs.length (w.map (ixS cs)) = true := by
  unfold onK
  rw [List.all_eq_true]
  intro a ha
  obtain ⟨c, hc, rfl⟩ := List.mem_map.mp ha
  exact decide_eq_true (ixS_ok (hw c hc)).2
end Dg

namespace K
open PySem PySem.Spec PyProof.Rows L2 Dl
/-! ### the text as terms of the small language (printed by gen.py) -/
def d_state_behind : Df := { N := ["machine", "word", "state", "sign", "letters", "table", "ends"], ps := 2, io := none, body :=
    (.cons (.unp [4, 5, 6] (.var 0))
    (.cons (.set 2 (.int 0))
    (.cons (.for_ (.name 3) (.seq (.var 1)) (.cons (.set 2 (.op2 .at (.op2 .at (.var 5) (.var 2)) (.op2 .index (.var 4) (.var 3))))
    .nil) [0, 1, 3, 6])
    (.cons (.ret (.var 2))
    .nil)))) }
def d_has : Df := { N := ["machine", "word"], ps := 2, io := none, body :=
    (.cons (.ret (.op2 .isIn (.call "state_behind" (.cons (.var 0) (.cons (.var 1) .nil))) (.op2 .at (.var 0) (.int 2))))
    .nil) }
def d_classes_of : Df := { N := ["table", "ends", "classes", "many", "numbers", "found", "state", "row", "key", "one"], ps := 2, io := none, body :=
    (.cons (.set 2 (.comp [6] (.name 6) (.rng1 (.op1 .len (.var 0))) .no (.op1 .int (.op2 .isIn (.var 6) (.var 1)))))
    (.cons (.set 3 (.int 0))
    (.cons (.whl (.cmp .ne (.var 3) (.op1 .lset (.var 2))) (.cons (.set 3 (.op1 .lset (.var 2)))
    (.cons (.set 4 (.dct .nil))
    (.cons (.set 5 (.lst .nil))
    (.cons (.for_ (.tup [6, 7]) (.enm (.cons (.var 0) .nil)) (.cons (.set 8 (.op2 .add (.tup (.cons (.op2 .at (.var 2) (.var 6)) .nil)) (.op1 .tuple (.comp [9] (.name 9) (.seq (.var 7)) .no (.op2 .at (.var 2) (.var 9))))))
    (.cons (.expr (.setd 4 (.var 8) (.op1 .len (.var 4))))
    (.cons (.expr (.app 5 (.op2 .at (.var 4) (.var 8))))
    .nil))) [1, 6, 7, 8, 9])
    (.cons (.set 2 (.var 5))
    .nil))))) [1, 4, 5, 6, 7, 8, 9])
    (.cons (.ret (.var 2))
    .nil)))) }
def d_least_by : Df := { N := ["letters", "begin", "rows", "numbers", "order", "table", "ends", "thing", "ends_here", "nexts", "state"], ps := 3, io := none, kd := 1, body :=
    (.cons (.set 3 (.dct (.cons (.var 1) (.cons (.int 0) .nil))))
    (.cons (.set 4 (.lst (.cons (.var 1) .nil)))
    (.cons (.set 5 (.lst .nil))
    (.cons (.set 6 (.lst .nil))
    (.cons (.whl (.cmp .lt (.op1 .len (.var 5)) (.op1 .len (.var 4))) (.cons (.unp [8, 9] (.callF 2 (.cons (.op2 .at (.var 4) (.op1 .len (.var 5))) .nil)))
    (.cons (.ife (.val (.var 8)) (.cons (.expr (.app 6 (.op1 .len (.var 5))))
    .nil) .nil)
    (.cons (.for_ (.name 7) (.seq (.var 9)) (.cons (.ife (.cmp .notIn (.var 7) (.var 3)) (.cons (.setAt 3 (.var 7) (.op1 .len (.var 4)))
    (.cons (.expr (.app 4 (.var 7)))
    .nil)) .nil)
    .nil) [1, 7, 8, 10])
    (.cons (.expr (.app 5 (.comp [7] (.name 7) (.seq (.var 9)) .no (.op2 .at (.var 3) (.var 7)))))
    .nil)))) [1, 7, 8, 9, 10])
    (.cons (.ret (.call "put_in_order" (.cons (.var 0) (.cons (.var 5) (.cons (.op1 .dctP (.comp [10] (.name 10) (.seq (.var 6)) .no (.tup (.cons (.var 10) (.cons (.bl true) .nil))))) .nil)))))
    .nil)))))) }
def d_put_in_order : Df := { N := ["letters", "table", "ends", "classes", "numbers", "order", "found", "told", "row", "state", "place"], ps := 3, io := none, body :=
    (.cons (.set 3 (.call "classes_of" (.cons (.var 1) (.cons (.var 2) .nil))))
    (.cons (.set 4 (.dct (.cons (.op2 .at (.var 3) (.int 0)) (.cons (.int 0) .nil))))
    (.cons (.set 5 (.lst (.cons (.int 0) .nil)))
    (.cons (.set 6 (.lst .nil))
    (.cons (.whl (.cmp .lt (.op1 .len (.var 6)) (.op1 .len (.var 5))) (.cons (.set 8 (.op2 .at (.var 1) (.op2 .at (.var 5) (.op1 .len (.var 6)))))
    (.cons (.for_ (.name 9) (.seq (.var 8)) (.cons (.ife (.cmp .notIn (.op2 .at (.var 3) (.var 9)) (.var 4)) (.cons (.setAt 4 (.op2 .at (.var 3) (.var 9)) (.op1 .len (.var 5)))
    (.cons (.expr (.app 5 (.var 9)))
    .nil)) .nil)
    .nil) [7, 9, 10])
    (.cons (.expr (.app 6 (.op1 .tuple (.comp [9] (.name 9) (.seq (.var 8)) .no (.op2 .at (.var 4) (.op2 .at (.var 3) (.var 9)))))))
    .nil))) [7, 8, 9, 10])
    (.cons (.set 7 (.op1 .tuple (.comp [9, 10] (.tup [10, 9]) (.enm (.cons (.var 5) .nil)) (.yes (.cmp .isIn (.var 9) (.var 2))) (.var 10))))
    (.cons (.ret (.tup (.cons (.var 0) (.cons (.op1 .tuple (.var 6)) (.cons (.var 7) .nil)))))
    .nil))))))) }
def d_least : Df := { N := ["machine", "letters", "table", "ends"], ps := 1, io := none, fin := some { g := "least_by", es := (.cons (.var 1) (.cons (.int 0) .nil)), c := 0, js := [3, 2], i := none }, body :=
    (.cons (.unp [1, 2, 3] (.var 0))
    .nil) }
def d_woven : Df := { N := ["one", "other", "choose", "rows"], ps := 3, io := none, fin := some { g := "least_by", es := (.cons (.op2 .at (.var 0) (.int 0)) (.cons (.tup (.cons (.int 0) (.cons (.int 0) .nil))) .nil)), c := 1, js := [2, 0, 1], i := some 3 }, kd := 1, body :=
    .nil }
def d_both : Df := { N := ["one", "other"], ps := 2, io := none, fin := some { g := "woven", es := (.cons (.var 0) (.cons (.var 1) .nil)), c := 2, js := [], i := none }, body :=
    .nil }
def d_either : Df := { N := ["one", "other"], ps := 2, io := none, fin := some { g := "woven", es := (.cons (.var 0) (.cons (.var 1) .nil)), c := 3, js := [], i := none }, body :=
    .nil }
def d_without : Df := { N := ["one", "other"], ps := 2, io := none, fin := some { g := "woven", es := (.cons (.var 0) (.cons (.var 1) .nil)), c := 4, js := [], i := none }, body :=
    .nil }
def d_turned : Df := { N := ["machine", "letters", "table", "ends"], ps := 1, io := none, fin := some { g := "least_by", es := (.cons (.var 1) (.cons (.int 0) .nil)), c := 5, js := [3, 2], i := none }, body :=
    (.cons (.unp [1, 2, 3] (.var 0))
    .nil) }
def d_law_stream : Df := { N := ["cell", "low"], ps := 1, io := none, body :=
    (.cons (.set 1 (.op2 .mod (.var 0) (.int 536870909)))
    (.cons (.set 1 (.op2 .mod (.op2 .add (.op2 .mul (.op2 .mod (.op2 .mul (.var 1) (.var 1)) (.int 536870909)) (.op2 .add (.var 1) (.int 7))) (.int 13)) (.int 536870909)))
    (.cons (.ret (.lst (.cons (.var 0) (.cons (.var 1) (.cons (.op1 .int (.op2 .ge (.var 0) (.op2 .pow (.int 10) (.int 18)))) .nil)))))
    .nil))) }
def d_law_take : Df := { N := ["row", "many", "got"], ps := 2, io := some 0, body :=
    (.cons (.ife (.cmp .eq (.op2 .at (.var 0) (.int 2)) (.int 1)) (.cons (.set 2 (.op2 .mod (.op2 .at (.var 0) (.int 0)) (.var 1)))
    (.cons (.setAt 0 (.int 0) (.op2 .div (.op2 .at (.var 0) (.int 0)) (.var 1)))
    (.cons (.ret (.var 2))
    .nil))) .nil)
    (.cons (.setAt 0 (.int 1) (.op2 .mod (.op2 .mul (.op2 .add (.op2 .at (.var 0) (.int 1)) (.int 7919)) (.op2 .add (.op2 .at (.var 0) (.int 1)) (.int 104729))) (.int 536870909)))
    (.cons (.ret (.op2 .mod (.op2 .div (.op2 .add (.op2 .mul (.op2 .at (.var 0) (.int 1)) (.int 48271)) (.int 11)) (.int 64)) (.var 1)))
    .nil))) }
def d_law_letters : Df := { N := ["row", "many", "left", "k"], ps := 1, io := some 0, body :=
    (.cons (.set 1 (.op2 .add (.int 1) (.call "_law_take" (.cons (.var 0) (.cons (.int 5) .nil)))))
    (.cons (.set 2 (.op1 .list (.str "abcdefghijklmnopqrstuvwxyz")))
    (.cons (.ife (.cmp .eq (.call "_law_take" (.cons (.var 0) (.cons (.int 2) .nil))) (.int 0)) (.cons (.set 2 (.cut (.cut (.var 2) (.yes (.call "_law_take" (.cons (.var 0) (.cons (.int 22) .nil)))) .no) .no (.yes (.var 1))))
    .nil) .nil)
    (.cons (.ret (.op2 .join (.str "") (.op1 .sorted (.comp [3] (.name 3) (.rng1 (.var 1)) .no (.pop 2 (.call "_law_take" (.cons (.var 0) (.cons (.op1 .len (.var 2)) .nil))))))))
    .nil)))) }
def d_law_machine : Df := { N := ["row", "letters", "most", "many", "table", "ends", "state", "sign"], ps := 3, io := some 0, body :=
    (.cons (.set 3 (.op2 .add (.int 1) (.call "_law_take" (.cons (.var 0) (.cons (.var 2) .nil)))))
    (.cons (.set 4 (.comp [6] (.name 6) (.rng1 (.var 3)) .no (.op1 .tuple (.comp [7] (.name 7) (.seq (.var 1)) .no (.call "_law_take" (.cons (.var 0) (.cons (.var 3) .nil)))))))
    (.cons (.set 5 (.comp [6] (.name 6) (.rng1 (.var 3)) (.yes (.cmp .eq (.call "_law_take" (.cons (.var 0) (.cons (.int 2) .nil))) (.int 1))) (.var 6)))
    (.cons (.ret (.tup (.cons (.var 1) (.cons (.op1 .tuple (.var 4)) (.cons (.op1 .tuple (.var 5)) .nil)))))
    .nil)))) }
def d_law_word : Df := { N := ["row", "letters", "most", "k"], ps := 3, io := some 0, body :=
    (.cons (.ret (.op2 .join (.str "") (.comp [3] (.name 3) (.rng1 (.call "_law_take" (.cons (.var 0) (.cons (.op2 .add (.var 2) (.int 1)) .nil)))) .no (.op2 .at (.var 1) (.call "_law_take" (.cons (.var 0) (.cons (.op1 .len (.var 1)) .nil)))))))
    .nil) }
def d_law_all_words : Df := { N := ["letters", "length", "words", "k", "longer", "word", "sign"], ps := 2, io := none, body :=
    (.cons (.set 2 (.lst (.cons (.str "") .nil)))
    (.cons (.for_ (.name 3) (.rng1 (.var 1)) (.cons (.set 4 (.lst .nil))
    (.cons (.for_ (.name 5) (.seq (.var 2)) (.cons (.set 4 (.op2 .add (.var 4) (.comp [6] (.name 6) (.seq (.var 0)) .no (.op2 .add (.var 5) (.var 6)))))
    .nil) [1, 2, 3, 5, 6])
    (.cons (.set 2 (.var 4))
    .nil))) [1, 3, 4, 5, 6])
    (.cons (.ret (.var 2))
    .nil))) }
def d_law_words : Df := { N := ["row", "letters", "words", "length", "k"], ps := 2, io := some 0, body :=
    (.cons (.set 2 (.lst .nil))
    (.cons (.for_ (.name 3) (.rng1 (.op2 .at (.lst (.cons (.int 7) (.cons (.int 7) (.cons (.int 4) (.cons (.int 3) (.cons (.int 3) .nil)))))) (.op2 .sub (.op1 .len (.var 1)) (.int 1)))) (.cons (.set 2 (.op2 .add (.var 2) (.call "_law_all_words" (.cons (.var 1) (.cons (.var 3) .nil)))))
    .nil) [3, 4])
    (.cons (.ret (.op2 .add (.var 2) (.comp [4] (.name 4) (.rng1 (.int 10)) .no (.call "_law_word" (.cons (.var 0) (.cons (.var 1) (.cons (.int 40) .nil)))))))
    .nil))) }
def d_law_right : Df := { N := ["some", "made", "words", "word", "one", "other", "third", "first", "second", "last", "due", "machine"], ps := 3, io := none, body :=
    (.cons (.unp [4, 5, 6] (.var 0))
    (.cons (.for_ (.name 3) (.seq (.var 2)) (.cons (.set 7 (.call "has" (.cons (.var 4) (.cons (.var 3) .nil))))
    (.cons (.set 8 (.call "has" (.cons (.var 5) (.cons (.var 3) .nil))))
    (.cons (.set 9 (.call "has" (.cons (.var 6) (.cons (.var 3) .nil))))
    (.cons (.set 10 (.lst (.cons (.and (.var 7) (.var 8)) (.cons (.or (.var 7) (.var 8)) (.cons (.and (.var 7) (.not (.var 8))) (.cons (.not (.var 7)) (.cons (.var 7) .nil)))))))
    (.cons (.set 10 (.op2 .add (.var 10) (.lst (.cons (.or (.and (.var 7) (.var 8)) (.var 9)) (.cons (.and (.or (.var 7) (.var 9)) (.not (.var 8))) (.cons (.not (.and (.var 8) (.var 9))) .nil))))))
    (.cons (.ife (.cmp .ne (.comp [11] (.name 11) (.seq (.var 1)) .no (.call "has" (.cons (.var 11) (.cons (.var 3) .nil)))) (.var 10)) (.cons (.ret (.bl false))
    .nil) .nil)
    .nil)))))) [0, 2, 3, 7, 8, 9, 10, 11])
    (.cons (.ret (.bl true))
    .nil))) }
def d_law : Df := { N := ["script", "cell", "row", "letters", "some", "made", "one", "other", "third", "k"], ps := 1, io := none, body :=
    (.cons (.for_ (.name 1) (.seq (.op2 .add (.lst (.cons (.int 0) .nil)) (.cut (.var 0) .no (.yes (.int 10))))) (.cons (.set 2 (.call "_law_stream" (.cons (.var 1) .nil)))
    (.cons (.set 3 (.call "_law_letters" (.cons (.var 2) .nil)))
    (.cons (.set 4 (.comp [9] (.name 9) (.rng1 (.int 3)) .no (.call "_law_machine" (.cons (.var 2) (.cons (.var 3) (.cons (.int 5) .nil))))))
    (.cons (.unp [6, 7, 8] (.var 4))
    (.cons (.set 5 (.lst (.cons (.call "both" (.cons (.var 6) (.cons (.var 7) .nil))) (.cons (.call "either" (.cons (.var 6) (.cons (.var 7) .nil))) (.cons (.call "without" (.cons (.var 6) (.cons (.var 7) .nil))) (.cons (.call "turned" (.cons (.var 6) .nil)) (.cons (.call "least" (.cons (.var 6) .nil)) .nil)))))))
    (.cons (.set 5 (.op2 .add (.var 5) (.lst (.cons (.call "either" (.cons (.call "both" (.cons (.var 6) (.cons (.var 7) .nil))) (.cons (.var 8) .nil))) (.cons (.call "without" (.cons (.call "either" (.cons (.var 6) (.cons (.var 8) .nil))) (.cons (.var 7) .nil))) .nil)))))
    (.cons (.expr (.app 5 (.call "turned" (.cons (.call "both" (.cons (.var 7) (.cons (.var 8) .nil))) .nil))))
    (.cons (.ife (.not (.val (.callB "_law_right" (.cons (.var 4) (.cons (.var 5) (.cons (.call "_law_words" (.cons (.var 2) (.cons (.var 3) .nil))) .nil)))))) (.cons (.ret (.bl false))
    .nil) .nil)
    .nil)))))))) [0, 1, 2, 3, 4, 5, 6, 7, 8, 9])
    (.cons (.ret (.bl true))
    .nil)) }
def d_clo0 : Df := { N := ["state", "ends", "table"], ps := 3, io := none, kd := 2, np := 1, lam := true, body :=
    (.cons (.ret (.tup (.cons (.op2 .isIn (.var 0) (.var 1)) (.cons (.op2 .at (.var 2) (.var 0)) .nil)))) .nil) }
def d_clo1 : Df := { N := ["pair", "choose", "one", "other", "told"], ps := 4, io := none, kd := 2, np := 1, body :=
    (.cons (.set 4 (.callF 1 (.cons (.op2 .isIn (.op2 .at (.var 0) (.int 0)) (.op2 .at (.var 2) (.int 2))) (.cons (.op2 .isIn (.op2 .at (.var 0) (.int 1)) (.op2 .at (.var 3) (.int 2))) .nil))))
    (.cons (.ret (.tup (.cons (.var 4) (.cons (.op2 .lzip (.op2 .at (.op2 .at (.var 2) (.int 1)) (.op2 .at (.var 0) (.int 0))) (.op2 .at (.op2 .at (.var 3) (.int 1)) (.op2 .at (.var 0) (.int 1)))) .nil))))
    .nil)) }
def d_clo2 : Df := { N := ["first", "second"], ps := 2, io := none, kd := 2, np := 2, lam := true, body :=
    (.cons (.ret (.and (.var 0) (.var 1))) .nil) }
def d_clo3 : Df := { N := ["first", "second"], ps := 2, io := none, kd := 2, np := 2, lam := true, body :=
    (.cons (.ret (.or (.var 0) (.var 1))) .nil) }
def d_clo4 : Df := { N := ["first", "second"], ps := 2, io := none, kd := 2, np := 2, lam := true, body :=
    (.cons (.ret (.and (.var 0) (.not (.var 1)))) .nil) }
def d_clo5 : Df := { N := ["state", "ends", "table"], ps := 3, io := none, kd := 2, np := 1, lam := true, body :=
    (.cons (.ret (.tup (.cons (.op2 .notIn (.var 0) (.var 1)) (.cons (.op2 .at (.var 2) (.var 0)) .nil)))) .nil) }
def TT : List (Str × Df) := [("state_behind", d_state_behind),
  ("has", d_has),
  ("classes_of", d_classes_of),
  ("least_by", d_least_by),
  ("put_in_order", d_put_in_order),
  ("least", d_least),
  ("woven", d_woven),
  ("both", d_both),
  ("either", d_either),
  ("without", d_without),
  ("turned", d_turned),
  ("_law_stream", d_law_stream),
  ("_law_take", d_law_take),
  ("_law_letters", d_law_letters),
  ("_law_machine", d_law_machine),
  ("_law_word", d_law_word),
  ("_law_all_words", d_law_all_words),
  ("_law_words", d_law_words),
  ("_law_right", d_law_right),
  ("law", d_law),
  (cloKey 0, d_clo0),
  (cloKey 1, d_clo1),
  (cloKey 2, d_clo2),
  (cloKey 3, d_clo3),
  (cloKey 4, d_clo4),
  (cloKey 5, d_clo5)]
end K

/-! K06b: _law_all_words, _law_words. -/
namespace K
open PySem PySem.Spec PyProof.Rows L2 Dl Dm Dg
theorem big1 {n : Nat} (h : n ≤ 1000000) : n ≤ sizeLine := by
  have : (1000000 : Nat) ≤ sizeLine := by decide
  omega
theorem add_tx {a b : List Nat} (h : a.length + b.length ≤ 1000) : semAdd (tx a) (tx b) = some (.val (tx (a ++ b))) := by
  have e : (⟨a.toArray⟩ : Str) ++ ⟨b.toArray⟩ = ⟨(a ++ b).toArray⟩ := by
    apply TL.ext_tl
    rw [TL.tl_append]
  unfold semAdd tx
  show (if a.length + b.length ≤ sizeLine then some (Out.val (.str ((⟨a.toArray⟩ : Str) ++ ⟨b.toArray⟩))) else none) = _
  rw [if_pos (small_line h), e]
def wsD (ws : List (List Nat)) : Dat := .lst (ws.map tx)
def nextW (cs : List Nat) (ws : List (List Nat)) : List (List Nat) := ws.flatMap fun w => cs.map fun c => w ++ [c]
structure WsOk (cs : List Nat) (L M : Nat) (ws : List (List Nat)) : Prop where
  let' : ∀ w ∈ ws, ∀ c ∈ w, c ∈ cs
  len : ∀ w ∈ ws, w.length ≤ L
  few : ws.length ≤ M
theorem nextW_ok {cs : List Nat} (h5 : cs.length ≤ 5) {L M : Nat} {ws : List (List Nat)} (h : WsOk cs L M ws) : WsOk cs (L + 1) (M * 5) (nextW cs ws) := by
  refine ⟨fun w hw c hc => ?_, fun w hw => ?_, ?_⟩
  · obtain ⟨v, hv, hw⟩ := List.mem_flatMap.mp hw
    obtain ⟨d, hd, rfl⟩ := List.mem_map.mp hw
    rcases List.mem_append.mp hc with hc | hc
    · exact h.let' v hv c hc
    · rw [List.mem_singleton.mp hc]; exact hd
  · obtain ⟨v, hv, hw⟩ := List.mem_flatMap.mp hw
    obtain ⟨d, hd, rfl⟩ := List.mem_map.mp hw
    rw [List.length_append, List.length_singleton]
    have := h.len v hv
    omega
  · unfold nextW
    rw [List.length_flatMap]
    simp only [List.length_map]
    rw [List.map_const', List.sum_replicate_nat]
    exact Nat.mul_le_mul h.few h5
section
variable (W : Wd) (n : Nat) {cs : List Nat} (h5 : cs.length ≤ 5)
include h5
theorem longer_run : ∀ (ws lo : List (List Nat)), (∀ w ∈ ws, w.length ≤ 900) → lo.length + ws.length * 5 ≤ 1000000 →
    forD (stepF W n (.name 5) (.cons (.set 4 (.op2 .add (.var 4) (.comp [6] (.name 6) (.seq (.var 0)) .no (.op2 .add (.var 5) (.var 6))))) .nil)) [1, 2, 3, 5, 6] (ws.map tx) [some ⟨tx cs, .fz⟩, none, none, none, some ⟨wsD lo, .own⟩, none, none] = some (.next [some ⟨tx cs, .fz⟩, none, none, none, some ⟨wsD (lo ++ nextW cs ws), .own⟩, none, none])
  | [], lo, _, _ => by unfold nextW; rw [List.flatMap_nil, List.append_nil]; rfl
  | w :: ws, lo, hw, hl => by
    rw [List.length_cons] at hl
    have hw1 := hw w (List.mem_cons_self ..)
    let st : Rho := [some ⟨tx cs, .fz⟩, none, none, none, some ⟨wsD lo, .own⟩, some ⟨tx w, .fz⟩, none]
    have cp : Dl.run W (.comp [6] (.name 6) (.seq (.var 0)) .no (.op2 .add (.var 5) (.var 6))) st = some (.fresh (wsD (cs.map fun c => w ++ [c])), st) := by
      rw [run_comp]
      have hI : runI W (.seq (.var 0)) st = some ((cs.map sg).map .str, st) := rfl
      rw [hI]
      show (compD _ ((cs.map sg).map .str) st).bind _ = _
      have key : ∀ l : List Nat, compD (turnC W [6] (.name 6) .no (.op2 .add (.var 5) (.var 6))) ((l.map sg).map .str) st = some ((l.map fun c => w ++ [c]).map tx, st) := by
        intro l
        induction l with
        | nil => rfl
        | cons c l ih =>
          have ea : semAdd (tx w) (.str (sg c)) = some (.val (tx (w ++ [c]))) := add_tx (a := w) (b := [c]) (by show _ + 1 ≤ _; omega)
          have tn : turnC W [6] (.name 6) .no (.op2 .add (.var 5) (.var 6)) (.str (sg c)) st = some (some (tx (w ++ [c])), st) := by
            simp only [st]
            generalize tx w = z at ea ⊢
            simp [turnC, bindT, look, res, frz, sem2, pre2, ea, wipeR]
          rw [List.map_cons, List.map_cons, compD, tn]
          show (compD _ ((l.map sg).map .str) st).bind _ = _
          rw [ih]
          rfl
      rw [key cs]
      rfl
    have ad : semAdd (wsD lo) (wsD (cs.map fun c => w ++ [c])) = some (.fresh (wsD (lo ++ cs.map fun c => w ++ [c]))) := by
      have hc : (lo.map tx).length + ((cs.map fun c => w ++ [c]).map tx).length ≤ sizeLine := big1 (by rw [List.length_map, List.length_map, List.length_map]; omega)
      have : semAdd (wsD lo) (wsD (cs.map fun c => w ++ [c])) = some (.fresh (.lst (lo.map tx ++ (cs.map fun c => w ++ [c]).map tx))) := if_pos hc
      rw [this, ← List.map_append]
      rfl
    have tn : stepF W n (.name 5) (.cons (.set 4 (.op2 .add (.var 4) (.comp [6] (.name 6) (.seq (.var 0)) .no (.op2 .add (.var 5) (.var 6))))) .nil) (tx w) [some ⟨tx cs, .fz⟩, none, none, none, some ⟨wsD lo, .own⟩, none, none] = some (.next [some ⟨tx cs, .fz⟩, none, none, none, some ⟨wsD (lo ++ cs.map fun c => w ++ [c]), .own⟩, some ⟨tx w, .fz⟩, none]) := by
      show runB W n _ st = _
      refine (runB_next (r' := [some ⟨tx cs, .fz⟩, none, none, none, some ⟨wsD (lo ++ cs.map fun c => w ++ [c]), .own⟩, some ⟨tx w, .fz⟩, none]) ?_).trans (by rw [runB_nil])
      rw [runS_set, run_op2, run_var]
      have l4 : look st 4 = some ⟨wsD lo, .own⟩ := rfl
      have r4 : res st (.place 4) = some (wsD lo) := rfl
      rw [l4]
      simp only [Option.bind_some, r4, pre2, if_true]
      rw [cp]
      simp only [Option.bind_some, res, sem2]
      rw [l4]
      simp only [Option.map_some, Option.bind_some]
      rw [ad]
      rfl
    rw [List.map_cons, forD, tn]
    have ih := longer_run ws (lo ++ cs.map fun c => w ++ [c]) (fun v hv => hw v (List.mem_cons_of_mem _ hv)) (by rw [List.length_append, List.length_map]; omega)
    rw [List.append_assoc] at ih
    exact ih
theorem all_words_run {L : Nat} (hL : L ≤ 6) : ∃ ws o, runD W n d_law_all_words [tx cs, .int (L : Nat)] = some (o, .non) ∧ (o = .val (wsD ws) ∨ o = .fresh (wsD ws)) ∧ WsOk cs L (5 ^ L) ws := by
  let sO : List (List Nat) → Mu → Rho := fun ws m => [some ⟨tx cs, .fz⟩, none, some ⟨wsD ws, m⟩, none, none, none, none]
  have p6 : ∀ i, i ≤ 6 → 5 ^ i ≤ 15625 := fun i hi => by
    have : i = 0 ∨ i = 1 ∨ i = 2 ∨ i = 3 ∨ i = 4 ∨ i = 5 ∨ i = 6 := by omega
    rcases this with rfl | rfl | rfl | rfl | rfl | rfl | rfl <;> decide
  obtain ⟨r', h1, ws, m, rfl, hm, hok⟩ := forD_ix (f := stepF W n (.name 3) (.cons (.set 4 (.lst .nil)) (.cons (.for_ (.name 5) (.seq (.var 2)) (.cons (.set 4 (.op2 .add (.var 4) (.comp [6] (.name 6) (.seq (.var 0)) .no (.op2 .add (.var 5) (.var 6))))) .nil) [1, 2, 3, 5, 6]) (.cons (.set 2 (.var 4)) .nil)))) (wp := [1, 3, 4, 5, 6])
    (fun i r => ∃ ws m, r = sO ws m ∧ (m = .own ∨ m = .fz) ∧ WsOk cs i (5 ^ i) ws) (rangeD 0 L) 0 (sO [[]] .own) ⟨[[]], .own, rfl, .inl rfl, ⟨fun w hw c hc => (by rw [List.mem_singleton.mp hw] at hc; cases hc), fun w hw => by rw [List.mem_singleton.mp hw]; exact Nat.le_refl _, Nat.le_refl _⟩⟩ (by
    rintro i d r hd ⟨ws, m, rfl, hm, hok⟩
    rw [Nat.zero_add] at hok ⊢
    have hi : i < L := by
      have := (List.getElem?_eq_some_iff.mp hd).1
      rw [rangeD_len] at this
      exact this
    have hp := p6 i (by omega)
    have lr := longer_run W n h5 ws [] (fun w hw => by have := hok.len w hw; omega) (by rw [List.length_nil]; have := hok.few; omega)
    rw [List.nil_append] at lr
    refine ⟨[some ⟨tx cs, .fz⟩, none, some ⟨wsD (nextW cs ws), .fz⟩, none, some ⟨wsD (nextW cs ws), .fz⟩, none, none], ?_, nextW cs ws, .fz, rfl, .inr rfl, ?_⟩
    · show runB W n _ [some ⟨tx cs, .fz⟩, none, some ⟨wsD ws, m⟩, some ⟨d, .fz⟩, none, none, none] = _
      refine (runB_next (r' := [some ⟨tx cs, .fz⟩, none, some ⟨wsD ws, m⟩, some ⟨d, .fz⟩, some ⟨.lst [], .own⟩, none, none]) rfl).trans ?_
      refine (runB_next (r' := [some ⟨tx cs, .fz⟩, none, none, none, some ⟨wsD (nextW cs ws), .own⟩, none, none]) ?_).trans rfl
      rw [runS_for]
      rcases hm with rfl | rfl
      · exact lr
      · exact lr
    · have := nextW_ok h5 hok
      rw [← Nat.pow_succ] at this
      exact this)
  rw [rangeD_len, Nat.zero_add] at hok
  have src : runI W (.rng1 (.var 1)) [some ⟨tx cs, .fz⟩, some ⟨.int (L : Nat), .fz⟩, some ⟨wsD [[]], .own⟩, none, none, none, none] = some (rangeD 0 L, [some ⟨tx cs, .fz⟩, some ⟨.int (L : Nat), .fz⟩, some ⟨wsD [[]], .own⟩, none, none, none, none]) := by
    have sz : L ≤ sizeLine := big1 (by omega)
    rw [runI_rng1]
    simp [look, res, sz]
  have bd : runB W n d_law_all_words.body (startR d_law_all_words [tx cs, .int (L : Nat)]) = some (.ret (.place 2) (sO ws m)) := by
    show runB W n _ [some ⟨tx cs, .fz⟩, some ⟨.int (L : Nat), .fz⟩, none, none, none, none, none] = _
    refine (runB_next (r' := [some ⟨tx cs, .fz⟩, some ⟨.int (L : Nat), .fz⟩, some ⟨wsD [[]], .own⟩, none, none, none, none]) rfl).trans ?_
    refine (runB_next (r' := sO ws m) ?_).trans rfl
    rw [runS_for, src]
    exact h1
  rcases hm with rfl | rfl
  · exact ⟨ws, _, runD_own rfl bd rfl rfl, .inr rfl, hok⟩
  · exact ⟨ws, _, runD_at rfl bd rfl rfl, .inl rfl, hok⟩
end
end K

/-! K06c: _law_words. -/
namespace K
open PySem PySem.Spec PyProof.Rows L2 Dl Dm Dg
structure HasWords (W : Wd) : Prop where
  io1 : W.io "_law_all_words" = some none
  run1 : ∀ (cs : List Nat) (L : Nat), cs.length ≤ 5 → L ≤ 6 → ∃ ws o, W.phi "_law_all_words" [tx cs, .int (L : Nat)] = some (o, .non) ∧ (o = .val (wsD ws) ∨ o = .fresh (wsD ws)) ∧ WsOk cs L (5 ^ L) ws
  io4 : W.io "_law_word" = some (some 0)
  run4 : ∀ (row : Dat) (cs : List Nat) (most : Int), IsRow row → 0 < cs.length → cs.length ≤ 900 → 0 ≤ most → most ≤ 900 → ∃ (w : List Nat) (row' : _), W.phi "_law_word" [row, tx cs, .int most] = some (.val (tx w), row') ∧ (∀ c ∈ w, c ∈ cs) ∧ IsRow row'
def WsIn (cs : List Nat) (M : Nat) (ws : List (List Nat)) : Prop := (∀ w ∈ ws, ∀ c ∈ w, c ∈ cs) ∧ ws.length ≤ M
theorem words_run {W : Wd} (n : Nat) (hW : HasWords W) {row : Dat} {cs : List Nat} (hr : IsRow row) (h1 : 1 ≤ cs.length) (h5 : cs.length ≤ 5) :
    ∃ ws row', runD W n d_law_words [row, tx cs] = some (.fresh (wsD ws), row') ∧ WsIn cs 200000 ws ∧ IsRow row' := by
  obtain ⟨m, em, hm⟩ : ∃ m : Nat, semAt (.lst [.int 7, .int 7, .int 4, .int 3, .int 3]) (.int ((cs.length : Nat) - 1)) = some (.val (.int (m : Nat))) ∧ m ≤ 7 := by
    rcases (by omega : cs.length = 1 ∨ cs.length = 2 ∨ cs.length = 3 ∨ cs.length = 4 ∨ cs.length = 5) with h | h | h | h | h <;> rw [h]
    · exact ⟨7, rfl, by decide⟩
    · exact ⟨7, rfl, by decide⟩
    · exact ⟨4, rfl, by decide⟩
    · exact ⟨3, rfl, by decide⟩
    · exact ⟨3, rfl, by decide⟩
  let sO : Dat → List (List Nat) → Rho := fun row ws => [some ⟨row, .io⟩, some ⟨tx cs, .fz⟩, some ⟨wsD ws, .own⟩, none, none]
  have p6 : ∀ i, i ≤ 6 → 5 ^ i ≤ 15625 := fun i hi => by
    have : i = 0 ∨ i = 1 ∨ i = 2 ∨ i = 3 ∨ i = 4 ∨ i = 5 ∨ i = 6 := by omega
    rcases this with rfl | rfl | rfl | rfl | rfl | rfl | rfl <;> decide
  obtain ⟨r', lp, ws, rfl, hin⟩ := forD_ix (f := stepF W n (.name 3) (.cons (.set 2 (.op2 .add (.var 2) (.call "_law_all_words" (.cons (.var 1) (.cons (.var 3) .nil))))) .nil)) (wp := [3, 4]) (fun i r => ∃ ws, r = sO row ws ∧ WsIn cs (i * 15625) ws) (rangeD 0 m) 0 (sO row [])
    ⟨[], rfl, (fun w hw => nomatch hw), Nat.zero_le _⟩ (by
    rintro i d r hd ⟨ws, rfl, hin⟩
    rw [Nat.zero_add] at hin ⊢
    have hi : i < m := by
      have := (List.getElem?_eq_some_iff.mp hd).1
      rw [rangeD_len] at this
      exact this
    have ed : d = .int (i : Nat) := by
      unfold rangeD at hd
      rw [List.getElem?_map, List.getElem?_range hi] at hd
      have hd := Option.some.inj hd
      rw [← hd]
      show Dat.int (0 + (i : Nat)) = _
      rw [Int.zero_add]
    subst ed
    obtain ⟨w2, o, ph, ho, ok⟩ := hW.run1 cs i h5 (by omega)
    have hp := p6 i (by omega)
    have ad : semAdd (wsD ws) (wsD w2) = some (.fresh (wsD (ws ++ w2))) := by
      have l1 := hin.2
      have l2 := ok.few
      have hc : (ws.map tx).length + (w2.map tx).length ≤ sizeLine := big1 (by rw [List.length_map, List.length_map]; omega)
      have : semAdd (wsD ws) (wsD w2) = some (.fresh (.lst (ws.map tx ++ w2.map tx))) := if_pos hc
      rw [this, ← List.map_append]
      rfl
    refine ⟨[some ⟨row, .io⟩, some ⟨tx cs, .fz⟩, some ⟨wsD (ws ++ w2), .own⟩, some ⟨.int (i : Nat), .fz⟩, none], ?_, ws ++ w2, rfl, fun w hw => ?_, ?_⟩
    · show runB W n _ [some ⟨row, .io⟩, some ⟨tx cs, .fz⟩, some ⟨wsD ws, .own⟩, some ⟨.int (i : Nat), .fz⟩, none] = _
      refine (runB_next (r' := [some ⟨row, .io⟩, some ⟨tx cs, .fz⟩, some ⟨wsD (ws ++ w2), .own⟩, some ⟨.int (i : Nat), .fz⟩, none]) ?_).trans (by rw [runB_nil])
      generalize tx cs = z1 at ph ⊢
      generalize wsD ws = z2 at ad ⊢
      generalize wsD w2 = z3 at ad ho ⊢
      rcases ho with rfl | rfl <;> simp [look, res, frz, resAll, giveBack, hW.io1, ph, sem2, pre2, ad, store]
    · rcases List.mem_append.mp hw with hw | hw
      · exact hin.1 w hw
      · exact ok.let' w hw
    · rw [List.length_append]
      have l1 := hin.2
      have l2 := ok.few
      omega)
  rw [rangeD_len, Nat.zero_add] at hin
  obtain ⟨xs, r2, q1, q2, q3, hr2⟩ := comp_draw (f := turnC W [4] (.name 4) .no (.call "_law_word" (.cons (.var 0) (.cons (.var 1) (.cons (.int 40) .nil))))) (fun row => sO row ws) (fun x => ∃ w : List Nat, x = tx w ∧ ∀ c ∈ w, c ∈ cs) (rangeD 0 10) hr (by
    intro e he row hr
    obtain ⟨w, row', t, hw, hr'⟩ := hW.run4 row cs 40 hr (by omega) (by omega) (by decide) (by decide)
    refine ⟨tx w, row', ?_, ⟨w, rfl, hw⟩, hr'⟩
    simp only [sO]
    generalize tx cs = z1 at t ⊢
    simp [turnC, bindT, look, res, frz, lend, resAll, giveBack, hW.io4, t, wipeR])
  obtain ⟨w3, rfl, hw3⟩ := all_of (P := fun x => ∃ w : List Nat, x = tx w ∧ ∀ c ∈ w, c ∈ cs) (f := tx) fun x hx => by
    obtain ⟨w, e, hw⟩ := q3 x hx
    exact ⟨w, e, w, e, hw⟩
  rw [List.length_map, rangeD_len] at q2
  have ad : semAdd (wsD ws) (.lst (w3.map tx)) = some (.fresh (wsD (ws ++ w3))) := by
    have l1 := hin.2
    have hc : (ws.map tx).length + (w3.map tx).length ≤ sizeLine := big1 (by rw [List.length_map, List.length_map]; omega)
    have : semAdd (wsD ws) (.lst (w3.map tx)) = some (.fresh (.lst (ws.map tx ++ w3.map tx))) := if_pos hc
    rw [this, ← List.map_append]
    rfl
  refine ⟨ws ++ w3, r2, ?_, ⟨fun w hw => ?_, ?_⟩, hr2⟩
  · refine runD_fresh (r := sO r2 ws) rfl ?_ rfl
    show runB W n _ [some ⟨row, .io⟩, some ⟨tx cs, .fz⟩, none, none, none] = _
    refine (runB_next (r' := sO row []) rfl).trans ?_
    refine (runB_next (r' := sO row ws) ?_).trans ?_
    · rw [runS_for]
      have src : runI W (.rng1 (.op2 .at (.lst (.cons (.int 7) (.cons (.int 7) (.cons (.int 4) (.cons (.int 3) (.cons (.int 3) .nil)))))) (.op2 .sub (.op1 .len (.var 1)) (.int 1)))) (sO row []) = some (rangeD 0 m, sO row []) := by
        have ln : semLen (tx cs) = some (.val (.int (cs.length : Nat))) := rfl
        have sz : m ≤ sizeLine := big1 (by omega)
        rw [runI_rng1]
        simp only [sO]
        generalize tx cs = z at ln ⊢
        simp [look, res, frz, sem1, ln, sem2, pre2, semSub, em, sz]
      rw [src]
      exact lp
    · refine runB_ret ?_
      have src : runI W (.rng1 (.int 10)) (sO row ws) = some (rangeD 0 10, sO row ws) := by
        have := big1 (n := 10) (by decide)
        simp [runI_rng1, res]
        omega
      have cp : Dl.run W (.comp [4] (.name 4) (.rng1 (.int 10)) .no (.call "_law_word" (.cons (.var 0) (.cons (.var 1) (.cons (.int 40) .nil))))) (sO row ws) = some (.fresh (.lst (w3.map tx)), sO r2 ws) := by
        rw [run_comp, src]
        show Option.bind (compD _ _ (sO row ws)) _ = _
        rw [q1]
        rfl
      rw [runS_ret, run_op2, run_var]
      have l2 : ∀ r, look (sO r ws) 2 = some ⟨wsD ws, .own⟩ := fun _ => rfl
      have r2' : ∀ r, res (sO r ws) (.place 2) = some (wsD ws) := fun _ => rfl
      rw [l2]
      simp only [Option.bind_some, r2', pre2, if_true]
      rw [cp]
      simp only [Option.bind_some, r2', sem2]
      show ((semAdd (wsD ws) (.lst (w3.map tx))).bind _).bind _ = _
      rw [ad]
      rfl
  · rcases List.mem_append.mp hw with hw | hw
    · exact hin.1 w hw
    · obtain ⟨w', e, h⟩ := hw3 w hw
      have : w = w' := by
        have := congrArg (fun d : Dat => match d with | .str x => x.cps.toList | _ => []) e
        simpa [tx] using this
      rw [this]
      exact h
  · rw [List.length_append, q2]
    have := hin.2
    omega
end K

/-! K06d: _law_right. -/
namespace K
open PySem PySem.Spec PyProof.Rows L2 Dl Dm Dg
theorem canAll_bls : ∀ l : List Bool, PyData.canLayAll0 (toPys (l.map .bl)) = true
  | [] => rfl
  | x :: xs => by
    show (true && PyData.canLayAll0 (toPys (xs.map .bl))) = true
    rw [canAll_bls xs]
    rfl
theorem depth_bls : ∀ (xs : List Bool), PyData.depthAll (toPys (xs.map .bl)) = 0
  | [] => rfl
  | x :: xs => by
    show max 0 (PyData.depthAll (toPys (xs.map .bl))) = 0
    rw [depth_bls xs]
    rfl
theorem shaped_bls (xs : List Bool) : SeqAt.shaped (toPy (.lst (xs.map .bl))) = true := by
  unfold SeqAt.shaped
  rw [Bool.and_eq_true]
  refine ⟨canAll_bls xs, decide_eq_true ?_⟩
  show PyData.depthAll (toPys (xs.map .bl)) + 1 ≤ 64
  rw [depth_bls]
  decide
theorem eqv_bls : ∀ (xs : List Bool), PyData.eqvAll (toPys (xs.map .bl)) (toPys (xs.map .bl)) = true
  | [] => rfl
  | x :: xs => by
    show (PyData.eqv (.bool x) (.bool x) && PyData.eqvAll (toPys (xs.map .bl)) (toPys (xs.map .bl))) = true
    rw [eqv_bls xs]
    cases x <;> rfl
theorem ne_bls (xs : List Bool) : semNe (.lst (xs.map .bl)) (.lst (xs.map .bl)) = some (.val (.bl false)) := by
  have h : eqD (.lst (xs.map .bl)) (.lst (xs.map .bl)) = some true := by
    have : eqD (.lst (xs.map .bl)) (.lst (xs.map .bl)) = some (PyData.eqv (toPy (.lst (xs.map .bl))) (toPy (.lst (xs.map .bl)))) := if_pos ⟨shaped_bls xs, shaped_bls xs⟩
    rw [this]
    refine congrArg some ?_
    show PyData.eqvAll (toPys (xs.map .bl)) (toPys (xs.map .bl)) = true
    exact eqv_bls xs
  unfold semNe
  rw [h]
  rfl
/-- has tells the language -/
def Mh (W : Wd) (cs : List Nat) (m : Dat) (L : Lg) : Prop := ∀ w : List Nat, (∀ c ∈ w, c ∈ cs) → W.phi "has" [m, tx w] = some (.val (.bl (L (w.map (ixS cs)))), .non)
def dueL (f s l : Bool) : List Bool := [f && s, f || s, f && !s, !f, f, (f && s) || l, (f || l) && !s, !(s && l)]
theorem right_run {W : Wd} (n : Nat) (io : W.io "has" = some none) {cs : List Nat} {m1 m2 m3 : Dat} {L1 L2 L3 : Lg} (h1 : Mh W cs m1 L1) (h2 : Mh W cs m2 L2) (h3 : Mh W cs m3 L3) {ms : List (Dat × Lg)} (hm : ∀ p ∈ ms, Mh W cs p.1 p.2)
    {ws : List (List Nat)} (hw : ∀ w ∈ ws, ∀ c ∈ w, c ∈ cs) (hd : ∀ w ∈ ws, ms.map (fun p => p.2 (w.map (ixS cs))) = dueL (L1 (w.map (ixS cs))) (L2 (w.map (ixS cs))) (L3 (w.map (ixS cs)))) :
    runD W n d_law_right [.lst [m1, m2, m3], .lst (ms.map (·.1)), wsD ws] = some (.val (.bl true), .non) := by
  let st : Rho := [none, some ⟨.lst (ms.map (·.1)), .fz⟩, none, none, some ⟨m1, .fz⟩, some ⟨m2, .fz⟩, some ⟨m3, .fz⟩, none, none, none, none, none]
  let body : Ss := (.cons (.set 7 (.call "has" (.cons (.var 4) (.cons (.var 3) .nil))))
    (.cons (.set 8 (.call "has" (.cons (.var 5) (.cons (.var 3) .nil))))
    (.cons (.set 9 (.call "has" (.cons (.var 6) (.cons (.var 3) .nil))))
    (.cons (.set 10 (.lst (.cons (.and (.var 7) (.var 8)) (.cons (.or (.var 7) (.var 8)) (.cons (.and (.var 7) (.not (.var 8))) (.cons (.not (.var 7)) (.cons (.var 7) .nil)))))))
    (.cons (.set 10 (.op2 .add (.var 10) (.lst (.cons (.or (.and (.var 7) (.var 8)) (.var 9)) (.cons (.and (.or (.var 7) (.var 9)) (.not (.var 8))) (.cons (.not (.and (.var 8) (.var 9))) .nil))))))
    (.cons (.ife (.cmp .ne (.comp [11] (.name 11) (.seq (.var 1)) .no (.call "has" (.cons (.var 11) (.cons (.var 3) .nil)))) (.var 10)) (.cons (.ret (.bl false))
    .nil) .nil)
    .nil))))))
  have turn : ∀ w ∈ ws, ∃ r', stepF W n (.name 3) body (tx w) st = some (.next r') ∧ wipeR r' [0, 2, 3, 7, 8, 9, 10, 11] = st := by
    intro w hwm
    have hwc := hw w hwm
    have t1 := h1 w hwc
    have t2 := h2 w hwc
    have t3 := h3 w hwc
    have due := hd w hwm
    generalize hf : L1 (w.map (ixS cs)) = f at t1 due
    generalize hs : L2 (w.map (ixS cs)) = s at t2 due
    generalize hl : L3 (w.map (ixS cs)) = l at t3 due
    let s1 : Option Sl → Option Sl → Option Sl → Option Sl → Rho := fun a b c d => [none, some ⟨.lst (ms.map (·.1)), .fz⟩, none, some ⟨tx w, .fz⟩, some ⟨m1, .fz⟩, some ⟨m2, .fz⟩, some ⟨m3, .fz⟩, a, b, c, d, none]
    let bl : Bool → Option Sl := fun b => some ⟨.bl b, .fz⟩
    refine ⟨s1 (bl f) (bl s) (bl l) (some ⟨.lst ((dueL f s l).map .bl), .own⟩), ?_, rfl⟩
    show runB W n body (s1 none none none none) = _
    refine (runB_next (r' := s1 (bl f) none none none) ?_).trans ?_
    · simp only [s1, bl]
      generalize tx w = z at t1 ⊢
      simp [look, res, frz, resAll, giveBack, io, t1, store]
    refine (runB_next (r' := s1 (bl f) (bl s) none none) ?_).trans ?_
    · simp only [s1, bl]
      generalize tx w = z at t2 ⊢
      simp [look, res, frz, resAll, giveBack, io, t2, store]
    refine (runB_next (r' := s1 (bl f) (bl s) (bl l) none) ?_).trans ?_
    · simp only [s1, bl]
      generalize tx w = z at t3 ⊢
      simp [look, res, frz, resAll, giveBack, io, t3, store]
    refine (runB_next (r' := s1 (bl f) (bl s) (bl l) (some ⟨.lst ([f && s, f || s, f && !s, !f, f].map .bl), .own⟩)) ?_).trans ?_
    · cases f <;> cases s <;> rfl
    refine (runB_next (r' := s1 (bl f) (bl s) (bl l) (some ⟨.lst ((dueL f s l).map .bl), .own⟩)) ?_).trans ?_
    · have ad : ∀ a b : List Bool, a.length + b.length ≤ 100 → semAdd (.lst (a.map .bl)) (.lst (b.map .bl)) = some (.fresh (.lst ((a ++ b).map .bl))) := fun a b hab => by
        have hc : (a.map Dat.bl).length + (b.map Dat.bl).length ≤ sizeLine := big1 (by rw [List.length_map, List.length_map]; omega)
        rw [List.map_append]
        exact if_pos hc
      have lr : Dl.run W (.lst (.cons (.or (.and (.var 7) (.var 8)) (.var 9)) (.cons (.and (.or (.var 7) (.var 9)) (.not (.var 8))) (.cons (.not (.and (.var 8) (.var 9))) .nil)))) (s1 (bl f) (bl s) (bl l) (some ⟨.lst ([f && s, f || s, f && !s, !f, f].map .bl), .own⟩)) = some (.fresh (.lst ([(f && s) || l, (f || l) && !s, !(s && l)].map .bl)), s1 (bl f) (bl s) (bl l) (some ⟨.lst ([f && s, f || s, f && !s, !f, f].map .bl), .own⟩)) := by
        cases f <;> cases s <;> cases l <;> rfl
      have a1 := ad [f && s, f || s, f && !s, !f, f] [(f && s) || l, (f || l) && !s, !(s && l)] (by show 5 + 3 ≤ 100; decide)
      rw [runS_set, run_op2, run_var]
      have l10 : look (s1 (bl f) (bl s) (bl l) (some ⟨.lst ([f && s, f || s, f && !s, !f, f].map .bl), .own⟩)) 10 = some ⟨.lst ([f && s, f || s, f && !s, !f, f].map .bl), .own⟩ := rfl
      rw [l10]
      simp only [Option.bind_some, res]
      rw [l10]
      simp only [Option.map_some, Option.bind_some, pre2, if_true]
      rw [lr]
      simp only [Option.bind_some]
      rw [l10]
      simp only [Option.map_some, Option.bind_some, sem2]
      rw [a1]
      rfl
    refine (runB_next (r' := s1 (bl f) (bl s) (bl l) (some ⟨.lst ((dueL f s l).map .bl), .own⟩)) ?_).trans (by rw [runB_nil])
    let sr : Rho := s1 (bl f) (bl s) (bl l) (some ⟨.lst ((dueL f s l).map .bl), .own⟩)
    have cp : Dl.run W (.comp [11] (.name 11) (.seq (.var 1)) .no (.call "has" (.cons (.var 11) (.cons (.var 3) .nil)))) sr = some (.fresh (.lst ((dueL f s l).map .bl)), sr) := by
      rw [run_comp]
      have hI : runI W (.seq (.var 1)) sr = some (ms.map (·.1), sr) := rfl
      rw [hI]
      show (compD _ (ms.map (·.1)) sr).bind _ = _
      have key : ∀ ps : List (Dat × Lg), (∀ p ∈ ps, Mh W cs p.1 p.2) → compD (turnC W [11] (.name 11) .no (.call "has" (.cons (.var 11) (.cons (.var 3) .nil)))) (ps.map (·.1)) sr = some ((ps.map fun p => p.2 (w.map (ixS cs))).map .bl, sr) := by
        intro ps
        induction ps with
        | nil => exact fun _ => rfl
        | cons p ps ih =>
          intro hp
          have tp := hp p (List.mem_cons_self ..) w hwc
          have tn : turnC W [11] (.name 11) .no (.call "has" (.cons (.var 11) (.cons (.var 3) .nil))) p.1 sr = some (some (.bl (p.2 (w.map (ixS cs)))), sr) := by
            simp only [sr, s1, bl]
            generalize tx w = z at tp ⊢
            simp [turnC, bindT, look, res, frz, resAll, giveBack, io, tp, wipeR]
          rw [List.map_cons, compD, tn]
          show (compD _ (ps.map (·.1)) sr).bind _ = _
          rw [ih fun q hq => hp q (List.mem_cons_of_mem _ hq)]
          rfl
      rw [key ms hm, due]
      rfl
    have nb := ne_bls (dueL f s l)
    rw [runS_ife, runT_cmp, cp]
    have l10 : look sr 10 = some ⟨.lst ((dueL f s l).map .bl), .own⟩ := rfl
    simp only [Option.bind_some, run_var]
    rw [l10]
    simp only [Option.bind_some, res]
    rw [l10]
    simp only [Option.map_some, Option.bind_some, sem2]
    rw [nb]
    rfl
  have loop : ∀ l : List (List Nat), (∀ w ∈ l, w ∈ ws) → forD (stepF W n (.name 3) body) [0, 2, 3, 7, 8, 9, 10, 11] (l.map tx) st = some (.next st) := by
    intro l
    induction l with
    | nil => exact fun _ => rfl
    | cons w l ih =>
      intro hl
      obtain ⟨r', q1, q2⟩ := turn w (hl w (List.mem_cons_self ..))
      rw [List.map_cons, forD, q1]
      dsimp only
      rw [q2]
      exact ih fun v hv => hl v (List.mem_cons_of_mem _ hv)
  refine runD_val (r := st) rfl ?_ rfl
  show runB W n _ [some ⟨.lst [m1, m2, m3], .fz⟩, some ⟨.lst (ms.map (·.1)), .fz⟩, some ⟨wsD ws, .fz⟩, none, none, none, none, none, none, none, none, none] = _
  refine (runB_next (r' := [some ⟨.lst [m1, m2, m3], .fz⟩, some ⟨.lst (ms.map (·.1)), .fz⟩, some ⟨wsD ws, .fz⟩, none, some ⟨m1, .fz⟩, some ⟨m2, .fz⟩, some ⟨m3, .fz⟩, none, none, none, none, none]) rfl).trans ?_
  refine (runB_next (r' := st) ?_).trans rfl
  rw [runS_for]
  exact loop ws fun w hw => hw
end K

/-! K06e: law. -/
namespace K
open PySem PySem.Spec PyProof.Rows L2 Dl Dm Dg
abbrev nn : Nat := 1000000
theorem has1 : Has1 TT := ⟨rfl, rfl, rfl⟩
theorem mh_of {d : Nat} {N : Nat} {cs : List Nat} {m : Dat} {L : Lg} (h : IsM N cs m L) : Mh (Phi TT nn (d + 2)) cs m L := fun w hw => by
  obtain ⟨T, es, rfl, ok, rfl⟩ := h
  exact has_phi rfl rfl ok hw
theorem tk (k : Nat) : HasTake (Phi TT nn (k + 1)) := ⟨rfl, fun row m h0 h1 h2 => take_run _ _ h0 h1 h2⟩
theorem addL (a b : List Dat) (h : a.length + b.length ≤ sizeLine) : semAdd (.lst a) (.lst b) = some (.fresh (.lst (a ++ b))) := if_pos h
theorem law_run {ns : List Int} (hl : ns.length ≤ 63) : runD (Phi TT nn 29) nn d_law [.lst (ns.map .int)] = some (.val (.bl true), .non) := by
  generalize hW : Phi TT nn 29 = W
  have io1 : W.io "_law_stream" = some none := by rw [← hW]; rfl
  have io2 : W.io "_law_letters" = some (some 0) := by rw [← hW]; rfl
  have io3 : W.io "_law_machine" = some (some 0) := by rw [← hW]; rfl
  have io5 : W.io "_law_words" = some (some 0) := by rw [← hW]; rfl
  have io6 : W.io "_law_right" = some none := by rw [← hW]; rfl
  have ioB : W.io "both" = some none := by rw [← hW]; rfl
  have ioE : W.io "either" = some none := by rw [← hW]; rfl
  have ioW : W.io "without" = some none := by rw [← hW]; rfl
  have ioT : W.io "turned" = some none := by rw [← hW]; rfl
  have ioL : W.io "least" = some none := by rw [← hW]; rfl
  have run1 : ∀ cell : Int, ∃ row, W.phi "_law_stream" [.int cell] = some (.fresh row, .non) ∧ IsRow row := fun cell => by rw [← hW]; exact stream_run _ _ cell
  have run2 : ∀ row, IsRow row → ∃ (cs : List Nat) (row' : _), W.phi "_law_letters" [row] = some (.val (tx cs), row') ∧ 1 ≤ cs.length ∧ cs.length ≤ 5 ∧ (∀ c ∈ cs, Low c) ∧ IsRow row' := fun row h => by rw [← hW]; exact letters_run _ (tk 27) h
  have run3 : ∀ (row : Dat) (cs : List Nat), IsRow row → ∃ m row', W.phi "_law_machine" [row, tx cs, .int 5] = some (.val m, row') ∧ (∃ L, IsM 5 cs m L) ∧ IsRow row' := fun row cs h => by
    rw [← hW]
    obtain ⟨m, rows, ends, row', q, hm, hr, hle⟩ := machine_run (cs := cs) nn (tk 27) h (by decide : (0 : Int) < 5) (by decide)
    obtain ⟨T, es, e, ok⟩ := mach_md hm (N := 5) hle
    exact ⟨m, row', q, ⟨mL T es, T, es, e, ok, rfl⟩, hr⟩
  have run5 : ∀ (row : Dat) (cs : List Nat), IsRow row → 1 ≤ cs.length → cs.length ≤ 5 → ∃ ws row', W.phi "_law_words" [row, tx cs] = some (.fresh (wsD ws), row') ∧ WsIn cs 200000 ws ∧ IsRow row' := fun row cs h h1 h5 => by
    rw [← hW]
    exact words_run (W := Phi TT nn 28) nn ⟨rfl, fun cs L h5 hL => all_words_run (Phi TT nn 27) nn h5 hL, rfl, fun row cs most h h0 h1 h2 h3 => word_run _ (tk 26) h h0 h1 h2 h3⟩ h h1 h5
  have run6 : ∀ {cs : List Nat} {m1 m2 m3 : Dat} {L1 L2 L3 : Lg}, IsM 5 cs m1 L1 → IsM 5 cs m2 L2 → IsM 5 cs m3 L3 → ∀ {ms : List (Dat × Lg)}, (∀ p ∈ ms, IsM 200 cs p.1 p.2) → ∀ {ws : List (List Nat)}, (∀ w ∈ ws, ∀ c ∈ w, c ∈ cs) →
      (∀ w ∈ ws, ms.map (fun p => p.2 (w.map (ixS cs))) = dueL (L1 (w.map (ixS cs))) (L2 (w.map (ixS cs))) (L3 (w.map (ixS cs)))) → W.phi "_law_right" [.lst [m1, m2, m3], .lst (ms.map (·.1)), wsD ws] = some (.val (.bl true), .non) := fun i1 i2 i3 _ hm _ hw hd => by
    rw [← hW]
    exact right_run (W := Phi TT nn 28) nn rfl (mh_of i1) (mh_of i2) (mh_of i3) (fun p hp => mh_of (hm p hp)) hw hd
  have runB' : ∀ {cs : List Nat} {N1 N2 : Nat} {m1 m2 : Dat} {L1 L2 : Lg}, cs.length ≤ 5 → IsM N1 cs m1 L1 → IsM N2 cs m2 L2 → N1 * N2 ≤ 4000 → ∃ m, W.phi "both" [m1, m2] = some (.val m, .non) ∧ IsM (N1 * N2) cs m (put2 cs.length (· && ·) L1 L2) := fun h5 i1 i2 h4 => by
    rw [← hW]
    obtain ⟨m, q, _, i⟩ := two_is has1 (n := nn) (by decide) (by omega) (g := "both") (c := 2) (cw := 1) rfl rfl rfl i1 i2 h4 24 (choB rfl 24)
    exact ⟨m, q, i⟩
  have runE' : ∀ {cs : List Nat} {N1 N2 : Nat} {m1 m2 : Dat} {L1 L2 : Lg}, cs.length ≤ 5 → IsM N1 cs m1 L1 → IsM N2 cs m2 L2 → N1 * N2 ≤ 4000 → ∃ m, W.phi "either" [m1, m2] = some (.val m, .non) ∧ IsM (N1 * N2) cs m (put2 cs.length (· || ·) L1 L2) := fun h5 i1 i2 h4 => by
    rw [← hW]
    obtain ⟨m, q, _, i⟩ := two_is has1 (n := nn) (by decide) (by omega) (g := "either") (c := 3) (cw := 1) rfl rfl rfl i1 i2 h4 24 (choE rfl 24)
    exact ⟨m, q, i⟩
  have runW' : ∀ {cs : List Nat} {N1 N2 : Nat} {m1 m2 : Dat} {L1 L2 : Lg}, cs.length ≤ 5 → IsM N1 cs m1 L1 → IsM N2 cs m2 L2 → N1 * N2 ≤ 4000 → ∃ m, W.phi "without" [m1, m2] = some (.val m, .non) ∧ IsM (N1 * N2) cs m (put2 cs.length (fun a b => a && !b) L1 L2) := fun h5 i1 i2 h4 => by
    rw [← hW]
    obtain ⟨m, q, _, i⟩ := two_is has1 (n := nn) (by decide) (by omega) (g := "without") (c := 4) (cw := 1) rfl rfl rfl i1 i2 h4 24 (choO rfl 24)
    exact ⟨m, q, i⟩
  have runT' : ∀ {cs : List Nat} {N1 : Nat} {m1 : Dat} {L1 : Lg}, cs.length ≤ 5 → IsM N1 cs m1 L1 → N1 ≤ 4000 → ∃ m, W.phi "turned" [m1] = some (.val m, .non) ∧ IsM N1 cs m (put1 cs.length (! ·) L1) := fun h5 i1 h4 => by
    rw [← hW]
    obtain ⟨m, q, _, i⟩ := one_is has1 (n := nn) (by decide) (by omega) (f := "turned") (c := 5) (D := d_cloT) rfl rfl (! ·) (fun W T es s hs => cloT_run W nn es hs) i1 h4 25
    exact ⟨m, q, i⟩
  have runL' : ∀ {cs : List Nat} {N1 : Nat} {m1 : Dat} {L1 : Lg}, cs.length ≤ 5 → IsM N1 cs m1 L1 → N1 ≤ 4000 → ∃ m, W.phi "least" [m1] = some (.val m, .non) ∧ IsM N1 cs m (put1 cs.length id L1) := fun h5 i1 h4 => by
    rw [← hW]
    obtain ⟨m, q, _, i⟩ := one_is has1 (n := nn) (by decide) (by omega) (f := "least") (c := 0) (D := d_cloL) rfl rfl id (fun W T es s hs => cloL_run W nn es hs) i1 h4 25
    exact ⟨m, q, i⟩
  clear hW
  let body : Ss := (.cons (.set 2 (.call "_law_stream" (.cons (.var 1) .nil)))
    (.cons (.set 3 (.call "_law_letters" (.cons (.var 2) .nil)))
    (.cons (.set 4 (.comp [9] (.name 9) (.rng1 (.int 3)) .no (.call "_law_machine" (.cons (.var 2) (.cons (.var 3) (.cons (.int 5) .nil))))))
    (.cons (.unp [6, 7, 8] (.var 4))
    (.cons (.set 5 (.lst (.cons (.call "both" (.cons (.var 6) (.cons (.var 7) .nil))) (.cons (.call "either" (.cons (.var 6) (.cons (.var 7) .nil))) (.cons (.call "without" (.cons (.var 6) (.cons (.var 7) .nil))) (.cons (.call "turned" (.cons (.var 6) .nil)) (.cons (.call "least" (.cons (.var 6) .nil)) .nil)))))))
    (.cons (.set 5 (.op2 .add (.var 5) (.lst (.cons (.call "either" (.cons (.call "both" (.cons (.var 6) (.cons (.var 7) .nil))) (.cons (.var 8) .nil))) (.cons (.call "without" (.cons (.call "either" (.cons (.var 6) (.cons (.var 8) .nil))) (.cons (.var 7) .nil))) .nil)))))
    (.cons (.expr (.app 5 (.call "turned" (.cons (.call "both" (.cons (.var 7) (.cons (.var 8) .nil))) .nil))))
    (.cons (.ife (.not (.val (.callB "_law_right" (.cons (.var 4) (.cons (.var 5) (.cons (.call "_law_words" (.cons (.var 2) (.cons (.var 3) .nil))) .nil)))))) (.cons (.ret (.bl false))
    .nil) .nil)
    .nil))))))))
  let nil : Rho := [none, none, none, none, none, none, none, none, none, none]
  have turn : ∀ cell : Int, ∃ r', stepF W nn (.name 1) body (.int cell) nil = some (.next r') ∧ wipeR r' [0, 1, 2, 3, 4, 5, 6, 7, 8, 9] = nil := by
    intro cell
    obtain ⟨r1, t1, h1⟩ := run1 cell
    obtain ⟨cs, r2, t2, c1, c5, _, h2⟩ := run2 r1 h1
    let st : Dat → Rho := fun row => [none, some ⟨.int cell, .fz⟩, some ⟨row, .own⟩, some ⟨tx cs, .fz⟩, none, none, none, none, none, none]
    obtain ⟨xs, r3, q1, q2, q3, h3⟩ := comp_draw (f := turnC W [9] (.name 9) .no (.call "_law_machine" (.cons (.var 2) (.cons (.var 3) (.cons (.int 5) .nil))))) st (fun x => ∃ L, IsM 5 cs x L) (rangeD 0 3) h2 (by
      intro e he row hr
      obtain ⟨m, row', t, hm, hr'⟩ := run3 row cs hr
      refine ⟨m, row', ?_, hm, hr'⟩
      simp only [st]
      generalize tx cs = z at t ⊢
      simp [turnC, bindT, look, res, frz, lend, resAll, giveBack, io3, t, wipeR])
    rw [rangeD_len] at q2
    obtain ⟨m1, m2, m3, rfl⟩ : ∃ a b c, xs = [a, b, c] := by
      match xs, q2 with
      | [a, b, c], _ => exact ⟨a, b, c, rfl⟩
    obtain ⟨L1, i1⟩ := q3 m1 (by simp)
    obtain ⟨L2, i2⟩ := q3 m2 (by simp)
    obtain ⟨L3, i3⟩ := q3 m3 (by simp)
    obtain ⟨b12, pb12, ib12⟩ := runB' c5 i1 i2 (by decide)
    obtain ⟨e12, pe12, ie12⟩ := runE' c5 i1 i2 (by decide)
    obtain ⟨w12, pw12, iw12⟩ := runW' c5 i1 i2 (by decide)
    obtain ⟨t1', pt1, it1⟩ := runT' c5 i1 (by decide)
    obtain ⟨l1', pl1, il1⟩ := runL' c5 i1 (by decide)
    obtain ⟨eb, peb, ieb⟩ := runE' c5 ib12 i3 (by decide)
    obtain ⟨e13, pe13, ie13⟩ := runE' c5 i1 i3 (by decide)
    obtain ⟨we, pwe, iwe⟩ := runW' c5 ie13 i2 (by decide)
    obtain ⟨b23, pb23, ib23⟩ := runB' c5 i2 i3 (by decide)
    obtain ⟨tb, ptb, itb⟩ := runT' c5 ib23 (by decide)
    obtain ⟨ws, r4, t4, win, h4⟩ := run5 r3 cs h3 c1 c5
    let ms : List (Dat × Lg) := [(b12, put2 cs.length (· && ·) L1 L2), (e12, put2 cs.length (· || ·) L1 L2), (w12, put2 cs.length (fun a b => a && !b) L1 L2), (t1', put1 cs.length (! ·) L1), (l1', put1 cs.length id L1),
      (eb, put2 cs.length (· || ·) (put2 cs.length (· && ·) L1 L2) L3), (we, put2 cs.length (fun a b => a && !b) (put2 cs.length (· || ·) L1 L3) L2), (tb, put1 cs.length (! ·) (put2 cs.length (· && ·) L2 L3))]
    have hms : ∀ p ∈ ms, IsM 200 cs p.1 p.2 := by
      intro p hp
      simp only [ms, List.mem_cons, List.not_mem_nil, or_false] at hp
      rcases hp with rfl | rfl | rfl | rfl | rfl | rfl | rfl | rfl
      · exact ib12.mono (by decide)
      · exact ie12.mono (by decide)
      · exact iw12.mono (by decide)
      · exact it1.mono (by decide)
      · exact il1.mono (by decide)
      · exact ieb.mono (by decide)
      · exact iwe.mono (by decide)
      · exact itb.mono (by decide)
    have hdue : ∀ w ∈ ws, ms.map (fun p => p.2 (w.map (ixS cs))) = dueL (L1 (w.map (ixS cs))) (L2 (w.map (ixS cs))) (L3 (w.map (ixS cs))) := by
      intro w hw
      have ho := onK_ix (win.1 w hw)
      simp only [ms, List.map_cons, List.map_nil, put1, put2, ho, Bool.true_and, dueL, id]
    have t6 := run6 i1 i2 i3 hms win.1 hdue
    have e6 : (ms.map (·.1)) = [b12, e12, w12, t1', l1', eb, we, tb] := rfl
    rw [e6] at t6
    let s5 : Option Sl → Rho := fun o => [none, some ⟨.int cell, .fz⟩, some ⟨r3, .own⟩, some ⟨tx cs, .fz⟩, some ⟨.lst [m1, m2, m3], .fz⟩, o, some ⟨m1, .fz⟩, some ⟨m2, .fz⟩, some ⟨m3, .fz⟩, none]
    refine ⟨[none, some ⟨.int cell, .fz⟩, some ⟨r4, .own⟩, some ⟨tx cs, .fz⟩, some ⟨.lst [m1, m2, m3], .fz⟩, some ⟨.lst [b12, e12, w12, t1', l1', eb, we, tb], .own⟩, some ⟨m1, .fz⟩, some ⟨m2, .fz⟩, some ⟨m3, .fz⟩, none], ?_, rfl⟩
    show runB W nn body [none, some ⟨.int cell, .fz⟩, none, none, none, none, none, none, none, none] = _
    refine (runB_next (r' := [none, some ⟨.int cell, .fz⟩, some ⟨r1, .own⟩, none, none, none, none, none, none, none]) ?_).trans ?_
    · simp [look, res, frz, resAll, giveBack, io1, t1, store]
    refine (runB_next (r' := st r2) ?_).trans ?_
    · simp [st, look, res, frz, lend, resAll, giveBack, io2, t2, store]
    refine (runB_next (r' := [none, some ⟨.int cell, .fz⟩, some ⟨r3, .own⟩, some ⟨tx cs, .fz⟩, some ⟨.lst [m1, m2, m3], .own⟩, none, none, none, none, none]) ?_).trans ?_
    · have src : runI W (.rng1 (.int 3)) (st r2) = some (rangeD 0 3, st r2) := by
        have := big1 (n := 3) (by decide)
        simp [runI_rng1, res]
        omega
      rw [runS_set, run_comp, src]
      show ((compD _ _ (st r2)).bind _).bind _ = _
      rw [q1]
      rfl
    refine (runB_next (r' := s5 none) rfl).trans ?_
    refine (runB_next (r' := s5 (some ⟨.lst [b12, e12, w12, t1', l1'], .own⟩)) ?_).trans ?_
    · simp [s5, look, res, frz, resAll, giveBack, ioB, ioE, ioW, ioT, ioL, pb12, pe12, pw12, pt1, pl1, store]
    refine (runB_next (r' := s5 (some ⟨.lst [b12, e12, w12, t1', l1', eb, we], .own⟩)) ?_).trans ?_
    · have ad : semAdd (.lst [b12, e12, w12, t1', l1']) (.lst [eb, we]) = some (.fresh (.lst [b12, e12, w12, t1', l1', eb, we])) := by
        have hc : ([b12, e12, w12, t1', l1'] : List Dat).length + ([eb, we] : List Dat).length ≤ sizeLine := by show 5 + 2 ≤ sizeLine; decide
        exact addL _ _ hc
      simp [s5, look, res, frz, resAll, giveBack, ioB, ioE, ioW, pb12, pe12, peb, pe13, pwe, sem2, pre2, ad, store]
    refine (runB_next (r' := s5 (some ⟨.lst [b12, e12, w12, t1', l1', eb, we, tb], .own⟩)) ?_).trans ?_
    · have sz : 7 < sizeLine := by decide
      simp [s5, run_app, look, res, frz, resAll, giveBack, ioB, ioT, pb23, ptb, isLst, sz]
    refine (runB_next (r' := [none, some ⟨.int cell, .fz⟩, some ⟨r4, .own⟩, some ⟨tx cs, .fz⟩, some ⟨.lst [m1, m2, m3], .fz⟩, some ⟨.lst [b12, e12, w12, t1', l1', eb, we, tb], .own⟩, some ⟨m1, .fz⟩, some ⟨m2, .fz⟩, some ⟨m3, .fz⟩, none]) ?_).trans (by rw [runB_nil])
    simp only [s5]
    generalize tx cs = z at t4 ⊢
    generalize wsD ws = z2 at t4 t6 ⊢
    simp [look, res, frz, lend, resAll, giveBack, io5, io6, t4, t6, flatD, truthD]
  have loop : ∀ l : List Int, forD (stepF W nn (.name 1) body) [0, 1, 2, 3, 4, 5, 6, 7, 8, 9] (l.map .int) nil = some (.next nil) := by
    intro l
    induction l with
    | nil => rfl
    | cons c l ih =>
      obtain ⟨r', h1, h2⟩ := turn c
      rw [List.map_cons, forD, h1]
      dsimp only
      rw [h2]
      exact ih
  have src : runI W (.seq (.op2 .add (.lst (.cons (.int 0) .nil)) (.cut (.var 0) .no (.yes (.int 10))))) (startR d_law [.lst (ns.map .int)]) = some ((0 :: ns.take 10).map .int, startR d_law [.lst (ns.map .int)]) := by
    have e1 : semCut (.lst (ns.map .int)) none (some 10) = some (.fresh (.lst ((ns.take 10).map .int))) := by
      show some (Out.fresh (.lst (cutL _ _ _))) = _
      have e : HT.sIx (ns.map Dat.int).length (ns.map Dat.int).length (some 10) = min 10 ns.length := by
        unfold HT.sIx
        dsimp only
        rw [if_neg (by decide), List.length_map]
        omega
      unfold cutL
      rw [e, HT.sIx_none, List.drop_zero, Nat.sub_zero, ← List.map_take]
      congr 4
      rcases Nat.le_total 10 ns.length with h | h
      · rw [Nat.min_eq_left h]
      · rw [Nat.min_eq_right h, List.take_length, List.take_of_length_le h]
    have e2 : semAdd (.lst [.int 0]) (.lst ((ns.take 10).map .int)) = some (.fresh (.lst ((0 :: ns.take 10).map .int))) := if_pos (big1 (by rw [List.length_map, List.length_take]; show 1 + _ ≤ _; omega))
    simp [startR, d_law, look, res, frz, sem2, pre2, e1, items] at e2 ⊢
    simp [e2]
  refine runD_val (r := nil) rfl ?_ rfl
  refine (runB_next (r' := nil) ?_).trans rfl
  rw [runS_for, src]
  exact loop (0 :: ns.take 10)
theorem law_true (ns : List Int) (h : ns.length ≤ 63) : (Phi TT 1000000 30).phi "law" [.lst (ns.map .int)] = some (.val (.bl true), .non) := law_run h
end K

namespace K
open PySem PySem.Spec PyProof.Rows L2 Dl
def NM : List ((Nat × Nat) × Str) := [((54, 32), "least.<locals>.<lambda>"), ((57, 4), "woven.<locals>.rows"), ((62, 29), "both.<locals>.<lambda>"), ((64, 29), "either.<locals>.<lambda>"), ((66, 29), "without.<locals>.<lambda>"), ((69, 32), "turned.<locals>.<lambda>")]
def nmF (l c : Nat) : Str := (NM.lookup (l, c)).getD ""
def topS (i : Nat) : Stmt := PySem.Challenge.pw_likehands_k06_whole_sets_by_words_alone.main.body.getD i (.Pass ⟨0, 0, 0, 0⟩)
abbrev s_state_behind : Stmt := topS 1
abbrev s_has : Stmt := topS 2
abbrev s_classes_of : Stmt := topS 3
abbrev s_least_by : Stmt := topS 4
abbrev s_put_in_order : Stmt := topS 5
abbrev s_least : Stmt := topS 6
abbrev s_woven : Stmt := topS 7
abbrev s_both : Stmt := topS 8
abbrev s_either : Stmt := topS 9
abbrev s_without : Stmt := topS 10
abbrev s_turned : Stmt := topS 11
abbrev s_law_stream : Stmt := topS 13
abbrev s_law_take : Stmt := topS 14
abbrev s_law_letters : Stmt := topS 15
abbrev s_law_machine : Stmt := topS 16
abbrev s_law_word : Stmt := topS 17
abbrev s_law_all_words : Stmt := topS 18
abbrev s_law_words : Stmt := topS 19
abbrev s_law_right : Stmt := topS 20
abbrev s_law : Stmt := topS 21
theorem ck_state_behind : chkD TT nmF "state_behind" d_state_behind (defScope s_state_behind) (defBody s_state_behind) = true := by decide +kernel
theorem sc_state_behind : FnScope d_state_behind.N (d_state_behind.N.take d_state_behind.ps) (defScope s_state_behind) := ⟨rfl, rfl, rfl, by decide +kernel, rfl, by decide +kernel, by decide +kernel⟩
theorem ck_has : chkD TT nmF "has" d_has (defScope s_has) (defBody s_has) = true := by decide +kernel
theorem sc_has : FnScope d_has.N (d_has.N.take d_has.ps) (defScope s_has) := ⟨rfl, rfl, rfl, by decide +kernel, rfl, by decide +kernel, by decide +kernel⟩
theorem ck_classes_of : chkD TT nmF "classes_of" d_classes_of (defScope s_classes_of) (defBody s_classes_of) = true := by decide +kernel
theorem sc_classes_of : FnScope d_classes_of.N (d_classes_of.N.take d_classes_of.ps) (defScope s_classes_of) := ⟨rfl, rfl, rfl, by decide +kernel, rfl, by decide +kernel, by decide +kernel⟩
theorem ck_least_by : chkD TT nmF "least_by" d_least_by (defScope s_least_by) (defBody s_least_by) = true := by decide +kernel
theorem sc_least_by : FnScope d_least_by.N (d_least_by.N.take d_least_by.ps) (defScope s_least_by) := ⟨rfl, rfl, rfl, by decide +kernel, rfl, by decide +kernel, by decide +kernel⟩
theorem ck_put_in_order : chkD TT nmF "put_in_order" d_put_in_order (defScope s_put_in_order) (defBody s_put_in_order) = true := by decide +kernel
theorem sc_put_in_order : FnScope d_put_in_order.N (d_put_in_order.N.take d_put_in_order.ps) (defScope s_put_in_order) := ⟨rfl, rfl, rfl, by decide +kernel, rfl, by decide +kernel, by decide +kernel⟩
theorem ck_least : chkD TT nmF "least" d_least (defScope s_least) (defBody s_least) = true := by decide +kernel
theorem sc_least : FnScope d_least.N (d_least.N.take d_least.ps) (defScope s_least) := ⟨rfl, rfl, rfl, by decide +kernel, rfl, by decide +kernel, by decide +kernel⟩
theorem ck_woven : chkD TT nmF "woven" d_woven (defScope s_woven) (defBody s_woven) = true := by decide +kernel
theorem sc_woven : FnScope d_woven.N (d_woven.N.take d_woven.ps) (defScope s_woven) := ⟨rfl, rfl, rfl, by decide +kernel, rfl, by decide +kernel, by decide +kernel⟩
theorem ck_both : chkD TT nmF "both" d_both (defScope s_both) (defBody s_both) = true := by decide +kernel
theorem sc_both : FnScope d_both.N (d_both.N.take d_both.ps) (defScope s_both) := ⟨rfl, rfl, rfl, by decide +kernel, rfl, by decide +kernel, by decide +kernel⟩
theorem ck_either : chkD TT nmF "either" d_either (defScope s_either) (defBody s_either) = true := by decide +kernel
theorem sc_either : FnScope d_either.N (d_either.N.take d_either.ps) (defScope s_either) := ⟨rfl, rfl, rfl, by decide +kernel, rfl, by decide +kernel, by decide +kernel⟩
theorem ck_without : chkD TT nmF "without" d_without (defScope s_without) (defBody s_without) = true := by decide +kernel
theorem sc_without : FnScope d_without.N (d_without.N.take d_without.ps) (defScope s_without) := ⟨rfl, rfl, rfl, by decide +kernel, rfl, by decide +kernel, by decide +kernel⟩
theorem ck_turned : chkD TT nmF "turned" d_turned (defScope s_turned) (defBody s_turned) = true := by decide +kernel
theorem sc_turned : FnScope d_turned.N (d_turned.N.take d_turned.ps) (defScope s_turned) := ⟨rfl, rfl, rfl, by decide +kernel, rfl, by decide +kernel, by decide +kernel⟩
theorem ck_law_stream : chkD TT nmF "_law_stream" d_law_stream (defScope s_law_stream) (defBody s_law_stream) = true := by decide +kernel
theorem sc_law_stream : FnScope d_law_stream.N (d_law_stream.N.take d_law_stream.ps) (defScope s_law_stream) := ⟨rfl, rfl, rfl, by decide +kernel, rfl, by decide +kernel, by decide +kernel⟩
theorem ck_law_take : chkD TT nmF "_law_take" d_law_take (defScope s_law_take) (defBody s_law_take) = true := by decide +kernel
theorem sc_law_take : FnScope d_law_take.N (d_law_take.N.take d_law_take.ps) (defScope s_law_take) := ⟨rfl, rfl, rfl, by decide +kernel, rfl, by decide +kernel, by decide +kernel⟩
theorem ck_law_letters : chkD TT nmF "_law_letters" d_law_letters (defScope s_law_letters) (defBody s_law_letters) = true := by decide +kernel
theorem sc_law_letters : FnScope d_law_letters.N (d_law_letters.N.take d_law_letters.ps) (defScope s_law_letters) := ⟨rfl, rfl, rfl, by decide +kernel, rfl, by decide +kernel, by decide +kernel⟩
theorem ck_law_machine : chkD TT nmF "_law_machine" d_law_machine (defScope s_law_machine) (defBody s_law_machine) = true := by decide +kernel
theorem sc_law_machine : FnScope d_law_machine.N (d_law_machine.N.take d_law_machine.ps) (defScope s_law_machine) := ⟨rfl, rfl, rfl, by decide +kernel, rfl, by decide +kernel, by decide +kernel⟩
theorem ck_law_word : chkD TT nmF "_law_word" d_law_word (defScope s_law_word) (defBody s_law_word) = true := by decide +kernel
theorem sc_law_word : FnScope d_law_word.N (d_law_word.N.take d_law_word.ps) (defScope s_law_word) := ⟨rfl, rfl, rfl, by decide +kernel, rfl, by decide +kernel, by decide +kernel⟩
theorem ck_law_all_words : chkD TT nmF "_law_all_words" d_law_all_words (defScope s_law_all_words) (defBody s_law_all_words) = true := by decide +kernel
theorem sc_law_all_words : FnScope d_law_all_words.N (d_law_all_words.N.take d_law_all_words.ps) (defScope s_law_all_words) := ⟨rfl, rfl, rfl, by decide +kernel, rfl, by decide +kernel, by decide +kernel⟩
theorem ck_law_words : chkD TT nmF "_law_words" d_law_words (defScope s_law_words) (defBody s_law_words) = true := by decide +kernel
theorem sc_law_words : FnScope d_law_words.N (d_law_words.N.take d_law_words.ps) (defScope s_law_words) := ⟨rfl, rfl, rfl, by decide +kernel, rfl, by decide +kernel, by decide +kernel⟩
theorem ck_law_right : chkD TT nmF "_law_right" d_law_right (defScope s_law_right) (defBody s_law_right) = true := by decide +kernel
theorem sc_law_right : FnScope d_law_right.N (d_law_right.N.take d_law_right.ps) (defScope s_law_right) := ⟨rfl, rfl, rfl, by decide +kernel, rfl, by decide +kernel, by decide +kernel⟩
theorem ck_law : chkD TT nmF "law" d_law (defScope s_law) (defBody s_law) = true := by decide +kernel
theorem sc_law : FnScope d_law.N (d_law.N.take d_law.ps) (defScope s_law) := ⟨rfl, rfl, rfl, by decide +kernel, rfl, by decide +kernel, by decide +kernel⟩
end K
namespace K
open PySem PySem.Spec PyProof.Rows L2 Dl
abbrev fuel : Nat := 1000000
theorem fin {w : World} {K : PySem.W.Frag} {h : Heap} {mg : Str → Option Value} {fa : Addr} (X : K.In h) (G : h.Ns mainGlobals mg) (hfa : mg "law" = some (.ref fa)) {n k : Nat} (lt : ∀ ns : List Int, ns.length ≤ 63 → (Phi TT n (k + 1)).phi "law" [.lst (ns.map .int)] = some (.val (.bl true), .non))
    {f0 : Addr} {od0 an0 : Option Addr} {sl0 : Array (Option Value)} {oc0 kV0 dc0 pm0 ct0 : Value} {cd0 : Value}
    {f1 : Addr} {od1 an1 : Option Addr} {sl1 : Array (Option Value)} {oc1 kV1 dc1 pm1 ct1 : Value} {cd1 : Value}
    {f2 : Addr} {od2 an2 : Option Addr} {sl2 : Array (Option Value)} {oc2 kV2 dc2 pm2 ct2 : Value} {cd2 : Value}
    {f3 : Addr} {od3 an3 : Option Addr} {sl3 : Array (Option Value)} {oc3 kV3 dc3 pm3 ct3 : Value} {cd3 : Value}
    {f4 : Addr} {od4 an4 : Option Addr} {sl4 : Array (Option Value)} {oc4 kV4 dc4 pm4 ct4 : Value} {cd4 : Value}
    {f5 : Addr} {od5 an5 : Option Addr} {sl5 : Array (Option Value)} {oc5 kV5 dc5 pm5 ct5 : Value} {cd5 : Addr}
    {f6 : Addr} {od6 an6 : Option Addr} {sl6 : Array (Option Value)} {oc6 kV6 dc6 pm6 ct6 : Value} {cd6 : Addr}
    {f7 : Addr} {od7 an7 : Option Addr} {sl7 : Array (Option Value)} {oc7 kV7 dc7 pm7 ct7 : Value} {cd7 : Addr}
    {f8 : Addr} {od8 an8 : Option Addr} {sl8 : Array (Option Value)} {oc8 kV8 dc8 pm8 ct8 : Value} {cd8 : Addr}
    {f9 : Addr} {od9 an9 : Option Addr} {sl9 : Array (Option Value)} {oc9 kV9 dc9 pm9 ct9 : Value} {cd9 : Addr}
    {f10 : Addr} {od10 an10 : Option Addr} {sl10 : Array (Option Value)} {oc10 kV10 dc10 pm10 ct10 : Value} {cd10 : Addr}
    {f11 : Addr} {od11 an11 : Option Addr} {sl11 : Array (Option Value)} {oc11 kV11 dc11 pm11 ct11 : Value} {cd11 : Value}
    {f12 : Addr} {od12 an12 : Option Addr} {sl12 : Array (Option Value)} {oc12 kV12 dc12 pm12 ct12 : Value} {cd12 : Value}
    {f13 : Addr} {od13 an13 : Option Addr} {sl13 : Array (Option Value)} {oc13 kV13 dc13 pm13 ct13 : Value} {cd13 : Value}
    {f14 : Addr} {od14 an14 : Option Addr} {sl14 : Array (Option Value)} {oc14 kV14 dc14 pm14 ct14 : Value} {cd14 : Value}
    {f15 : Addr} {od15 an15 : Option Addr} {sl15 : Array (Option Value)} {oc15 kV15 dc15 pm15 ct15 : Value} {cd15 : Value}
    {f16 : Addr} {od16 an16 : Option Addr} {sl16 : Array (Option Value)} {oc16 kV16 dc16 pm16 ct16 : Value} {cd16 : Value}
    {f17 : Addr} {od17 an17 : Option Addr} {sl17 : Array (Option Value)} {oc17 kV17 dc17 pm17 ct17 : Value} {cd17 : Value}
    {f18 : Addr} {od18 an18 : Option Addr} {sl18 : Array (Option Value)} {oc18 kV18 dc18 pm18 ct18 : Value} {cd18 : Value}
    {f19 : Addr} {od19 an19 : Option Addr} {sl19 : Array (Option Value)} {oc19 kV19 dc19 pm19 ct19 : Value} {cd19 : Value}
    (a0 : PySem.W.nsIn K mainGlobals "state_behind" = some (some (.ref f0))) (l0 : K.lookup f0 = some ⟨oc0, od0, .func (PySem.W.fnOf "state_behind" "state_behind" (defArgs s_state_behind) (defBody s_state_behind) (defScope s_state_behind) .none kV0 dc0 pm0 an0 cd0 ct0), sl0⟩) (c0 : PySem.W.codeIn K cd0 "state_behind" = true) (k0 : PySem.W.keepIn K (.ref f0) = true)
    (a1 : PySem.W.nsIn K mainGlobals "has" = some (some (.ref f1))) (l1 : K.lookup f1 = some ⟨oc1, od1, .func (PySem.W.fnOf "has" "has" (defArgs s_has) (defBody s_has) (defScope s_has) .none kV1 dc1 pm1 an1 cd1 ct1), sl1⟩) (c1 : PySem.W.codeIn K cd1 "has" = true) (k1 : PySem.W.keepIn K (.ref f1) = true)
    (a2 : PySem.W.nsIn K mainGlobals "classes_of" = some (some (.ref f2))) (l2 : K.lookup f2 = some ⟨oc2, od2, .func (PySem.W.fnOf "classes_of" "classes_of" (defArgs s_classes_of) (defBody s_classes_of) (defScope s_classes_of) .none kV2 dc2 pm2 an2 cd2 ct2), sl2⟩) (c2 : PySem.W.codeIn K cd2 "classes_of" = true) (k2 : PySem.W.keepIn K (.ref f2) = true)
    (a3 : PySem.W.nsIn K mainGlobals "least_by" = some (some (.ref f3))) (l3 : K.lookup f3 = some ⟨oc3, od3, .func (PySem.W.fnOf "least_by" "least_by" (defArgs s_least_by) (defBody s_least_by) (defScope s_least_by) .none kV3 dc3 pm3 an3 cd3 ct3), sl3⟩) (c3 : PySem.W.codeIn K cd3 "least_by" = true) (k3 : PySem.W.keepIn K (.ref f3) = true)
    (a4 : PySem.W.nsIn K mainGlobals "put_in_order" = some (some (.ref f4))) (l4 : K.lookup f4 = some ⟨oc4, od4, .func (PySem.W.fnOf "put_in_order" "put_in_order" (defArgs s_put_in_order) (defBody s_put_in_order) (defScope s_put_in_order) .none kV4 dc4 pm4 an4 cd4 ct4), sl4⟩) (c4 : PySem.W.codeIn K cd4 "put_in_order" = true) (k4 : PySem.W.keepIn K (.ref f4) = true)
    (a5 : PySem.W.nsIn K mainGlobals "least" = some (some (.ref f5))) (l5 : K.lookup f5 = some ⟨oc5, od5, .func (PySem.W.fnOf "least" "least" (defArgs s_least) (defBody s_least) (defScope s_least) .none kV5 dc5 pm5 an5 (.ref cd5) ct5), sl5⟩) (c5 : PySem.W.codeIn K (.ref cd5) "least" = true) (k5 : PySem.W.keepIn K (.ref f5) = true)
    (a6 : PySem.W.nsIn K mainGlobals "woven" = some (some (.ref f6))) (l6 : K.lookup f6 = some ⟨oc6, od6, .func (PySem.W.fnOf "woven" "woven" (defArgs s_woven) (defBody s_woven) (defScope s_woven) .none kV6 dc6 pm6 an6 (.ref cd6) ct6), sl6⟩) (c6 : PySem.W.codeIn K (.ref cd6) "woven" = true) (k6 : PySem.W.keepIn K (.ref f6) = true)
    (a7 : PySem.W.nsIn K mainGlobals "both" = some (some (.ref f7))) (l7 : K.lookup f7 = some ⟨oc7, od7, .func (PySem.W.fnOf "both" "both" (defArgs s_both) (defBody s_both) (defScope s_both) .none kV7 dc7 pm7 an7 (.ref cd7) ct7), sl7⟩) (c7 : PySem.W.codeIn K (.ref cd7) "both" = true) (k7 : PySem.W.keepIn K (.ref f7) = true)
    (a8 : PySem.W.nsIn K mainGlobals "either" = some (some (.ref f8))) (l8 : K.lookup f8 = some ⟨oc8, od8, .func (PySem.W.fnOf "either" "either" (defArgs s_either) (defBody s_either) (defScope s_either) .none kV8 dc8 pm8 an8 (.ref cd8) ct8), sl8⟩) (c8 : PySem.W.codeIn K (.ref cd8) "either" = true) (k8 : PySem.W.keepIn K (.ref f8) = true)
    (a9 : PySem.W.nsIn K mainGlobals "without" = some (some (.ref f9))) (l9 : K.lookup f9 = some ⟨oc9, od9, .func (PySem.W.fnOf "without" "without" (defArgs s_without) (defBody s_without) (defScope s_without) .none kV9 dc9 pm9 an9 (.ref cd9) ct9), sl9⟩) (c9 : PySem.W.codeIn K (.ref cd9) "without" = true) (k9 : PySem.W.keepIn K (.ref f9) = true)
    (a10 : PySem.W.nsIn K mainGlobals "turned" = some (some (.ref f10))) (l10 : K.lookup f10 = some ⟨oc10, od10, .func (PySem.W.fnOf "turned" "turned" (defArgs s_turned) (defBody s_turned) (defScope s_turned) .none kV10 dc10 pm10 an10 (.ref cd10) ct10), sl10⟩) (c10 : PySem.W.codeIn K (.ref cd10) "turned" = true) (k10 : PySem.W.keepIn K (.ref f10) = true)
    (a11 : PySem.W.nsIn K mainGlobals "_law_stream" = some (some (.ref f11))) (l11 : K.lookup f11 = some ⟨oc11, od11, .func (PySem.W.fnOf "_law_stream" "_law_stream" (defArgs s_law_stream) (defBody s_law_stream) (defScope s_law_stream) .none kV11 dc11 pm11 an11 cd11 ct11), sl11⟩) (c11 : PySem.W.codeIn K cd11 "_law_stream" = true) (k11 : PySem.W.keepIn K (.ref f11) = true)
    (a12 : PySem.W.nsIn K mainGlobals "_law_take" = some (some (.ref f12))) (l12 : K.lookup f12 = some ⟨oc12, od12, .func (PySem.W.fnOf "_law_take" "_law_take" (defArgs s_law_take) (defBody s_law_take) (defScope s_law_take) .none kV12 dc12 pm12 an12 cd12 ct12), sl12⟩) (c12 : PySem.W.codeIn K cd12 "_law_take" = true) (k12 : PySem.W.keepIn K (.ref f12) = true)
    (a13 : PySem.W.nsIn K mainGlobals "_law_letters" = some (some (.ref f13))) (l13 : K.lookup f13 = some ⟨oc13, od13, .func (PySem.W.fnOf "_law_letters" "_law_letters" (defArgs s_law_letters) (defBody s_law_letters) (defScope s_law_letters) .none kV13 dc13 pm13 an13 cd13 ct13), sl13⟩) (c13 : PySem.W.codeIn K cd13 "_law_letters" = true) (k13 : PySem.W.keepIn K (.ref f13) = true)
    (a14 : PySem.W.nsIn K mainGlobals "_law_machine" = some (some (.ref f14))) (l14 : K.lookup f14 = some ⟨oc14, od14, .func (PySem.W.fnOf "_law_machine" "_law_machine" (defArgs s_law_machine) (defBody s_law_machine) (defScope s_law_machine) .none kV14 dc14 pm14 an14 cd14 ct14), sl14⟩) (c14 : PySem.W.codeIn K cd14 "_law_machine" = true) (k14 : PySem.W.keepIn K (.ref f14) = true)
    (a15 : PySem.W.nsIn K mainGlobals "_law_word" = some (some (.ref f15))) (l15 : K.lookup f15 = some ⟨oc15, od15, .func (PySem.W.fnOf "_law_word" "_law_word" (defArgs s_law_word) (defBody s_law_word) (defScope s_law_word) .none kV15 dc15 pm15 an15 cd15 ct15), sl15⟩) (c15 : PySem.W.codeIn K cd15 "_law_word" = true) (k15 : PySem.W.keepIn K (.ref f15) = true)
    (a16 : PySem.W.nsIn K mainGlobals "_law_all_words" = some (some (.ref f16))) (l16 : K.lookup f16 = some ⟨oc16, od16, .func (PySem.W.fnOf "_law_all_words" "_law_all_words" (defArgs s_law_all_words) (defBody s_law_all_words) (defScope s_law_all_words) .none kV16 dc16 pm16 an16 cd16 ct16), sl16⟩) (c16 : PySem.W.codeIn K cd16 "_law_all_words" = true) (k16 : PySem.W.keepIn K (.ref f16) = true)
    (a17 : PySem.W.nsIn K mainGlobals "_law_words" = some (some (.ref f17))) (l17 : K.lookup f17 = some ⟨oc17, od17, .func (PySem.W.fnOf "_law_words" "_law_words" (defArgs s_law_words) (defBody s_law_words) (defScope s_law_words) .none kV17 dc17 pm17 an17 cd17 ct17), sl17⟩) (c17 : PySem.W.codeIn K cd17 "_law_words" = true) (k17 : PySem.W.keepIn K (.ref f17) = true)
    (a18 : PySem.W.nsIn K mainGlobals "_law_right" = some (some (.ref f18))) (l18 : K.lookup f18 = some ⟨oc18, od18, .func (PySem.W.fnOf "_law_right" "_law_right" (defArgs s_law_right) (defBody s_law_right) (defScope s_law_right) .none kV18 dc18 pm18 an18 cd18 ct18), sl18⟩) (c18 : PySem.W.codeIn K cd18 "_law_right" = true) (k18 : PySem.W.keepIn K (.ref f18) = true)
    (a19 : PySem.W.nsIn K mainGlobals "law" = some (some (.ref f19))) (l19 : K.lookup f19 = some ⟨oc19, od19, .func (PySem.W.fnOf "law" "law" (defArgs s_law) (defBody s_law) (defScope s_law) .none kV19 dc19 pm19 an19 cd19 ct19), sl19⟩) (c19 : PySem.W.codeIn K cd19 "law" = true) (k19 : PySem.W.keepIn K (.ref f19) = true)
    (z0 : PySem.W.nsIn K mainGlobals "len" = some none)
    (z1 : PySem.W.nsIn K mainGlobals "int" = some none)
    (z2 : PySem.W.nsIn K mainGlobals "list" = some none)
    (z3 : PySem.W.nsIn K mainGlobals "tuple" = some none)
    (z4 : PySem.W.nsIn K mainGlobals "sorted" = some none)
    (z5 : PySem.W.nsIn K mainGlobals "isinstance" = some none)
    (z6 : PySem.W.nsIn K mainGlobals "range" = some none)
    (z7 : PySem.W.nsIn K mainGlobals "bool" = some none)
    (z8 : PySem.W.nsIn K mainGlobals "str" = some none)
    (z9 : PySem.W.nsIn K mainGlobals "zip" = some none)
    (z10 : PySem.W.nsIn K mainGlobals "enumerate" = some none)
    (z11 : PySem.W.nsIn K mainGlobals "set" = some none)
    (z12 : PySem.W.nsIn K mainGlobals "min" = some none)
    (z13 : PySem.W.nsIn K mainGlobals "max" = some none)
    (z14 : PySem.W.nsIn K mainGlobals "sum" = some none)
    (z15 : PySem.W.nsIn K mainGlobals "abs" = some none)
    (z16 : PySem.W.nsIn K mainGlobals "dict" = some none)
    (z17 : PySem.W.nsIn K mainGlobals "all" = some none)
    (z18 : PySem.W.nsIn K mainGlobals "reversed" = some none)
    (z19 : PySem.W.nsIn K mainGlobals "repr" = some none)
    (th5 : PySem.W.codeHdIn K cd5 (tabOfK K cd5) = true) (tn5 : K.lookup (tabOfK K cd5) = none) (tt5 : h.get? (tabOfK K cd5) = some { cls := .none, data := .fields #[] })
    (th6 : PySem.W.codeHdIn K cd6 (tabOfK K cd6) = true) (tn6 : K.lookup (tabOfK K cd6) = none) (tt6 : h.get? (tabOfK K cd6) = some { cls := .none, data := .fields #[] })
    (th7 : PySem.W.codeHdIn K cd7 (tabOfK K cd7) = true) (tn7 : K.lookup (tabOfK K cd7) = none) (tt7 : h.get? (tabOfK K cd7) = some { cls := .none, data := .fields #[] })
    (th8 : PySem.W.codeHdIn K cd8 (tabOfK K cd8) = true) (tn8 : K.lookup (tabOfK K cd8) = none) (tt8 : h.get? (tabOfK K cd8) = some { cls := .none, data := .fields #[] })
    (th9 : PySem.W.codeHdIn K cd9 (tabOfK K cd9) = true) (tn9 : K.lookup (tabOfK K cd9) = none) (tt9 : h.get? (tabOfK K cd9) = some { cls := .none, data := .fields #[] })
    (th10 : PySem.W.codeHdIn K cd10 (tabOfK K cd10) = true) (tn10 : K.lookup (tabOfK K cd10) = none) (tt10 : h.get? (tabOfK K cd10) = some { cls := .none, data := .fields #[] })
    : LamX.LawAtS PySem.Challenge.rw_likehands_k06_whole_sets_by_words_alone w K CX0 (k + 1) 63 "script" mg fa h := by
  have bi : ∀ x ∈ bnames, mg x = none := by
    intro x hx
    simp only [bnames, List.mem_cons, List.not_mem_nil, or_false] at hx
    rcases hx with rfl | rfl | rfl | rfl | rfl | rfl | rfl | rfl | rfl | rfl | rfl | rfl | rfl | rfl | rfl | rfl | rfl | rfl | rfl | rfl
    · exact PySem.W.mg_none_of X G z0
    · exact PySem.W.mg_none_of X G z1
    · exact PySem.W.mg_none_of X G z2
    · exact PySem.W.mg_none_of X G z3
    · exact PySem.W.mg_none_of X G z4
    · exact PySem.W.mg_none_of X G z5
    · exact PySem.W.mg_none_of X G z6
    · exact PySem.W.mg_none_of X G z7
    · exact PySem.W.mg_none_of X G z8
    · exact PySem.W.mg_none_of X G z9
    · exact PySem.W.mg_none_of X G z10
    · exact PySem.W.mg_none_of X G z11
    · exact PySem.W.mg_none_of X G z12
    · exact PySem.W.mg_none_of X G z13
    · exact PySem.W.mg_none_of X G z14
    · exact PySem.W.mg_none_of X G z15
    · exact PySem.W.mg_none_of X G z16
    · exact PySem.W.mg_none_of X G z17
    · exact PySem.W.mg_none_of X G z18
    · exact PySem.W.mg_none_of X G z19
  have da : ∀ f D, TT.lookup f = some D → D.kd ≠ 2 → DefAt K mg TT nmF [(cd5, tabOfK K cd5), (cd6, tabOfK K cd6), (cd7, tabOfK K cd7), (cd8, tabOfK K cd8), (cd9, tabOfK K cd9), (cd10, tabOfK K cd10)] f D := by
    intro f D h hk
    unfold TT at h
    rw [List.lookup_cons] at h
    split at h
    · rename_i e
      cases h
      cases eq_of_beq e
      exact at_mk X G sc_state_behind (by decide) ck_state_behind (fun _ _ _ _ _ _ us hl => match us, hl with | [_, _], _ => rfl) a0 l0 c0 k0 (fun h => nomatch h) (fun h => nomatch h)
    rw [List.lookup_cons] at h
    split at h
    · rename_i e
      cases h
      cases eq_of_beq e
      exact at_mk X G sc_has (by decide) ck_has (fun _ _ _ _ _ _ us hl => match us, hl with | [_, _], _ => rfl) a1 l1 c1 k1 (fun h => nomatch h) (fun h => nomatch h)
    rw [List.lookup_cons] at h
    split at h
    · rename_i e
      cases h
      cases eq_of_beq e
      exact at_mk X G sc_classes_of (by decide) ck_classes_of (fun _ _ _ _ _ _ us hl => match us, hl with | [_, _], _ => rfl) a2 l2 c2 k2 (fun h => nomatch h) (fun h => nomatch h)
    rw [List.lookup_cons] at h
    split at h
    · rename_i e
      cases h
      cases eq_of_beq e
      exact at_mk X G sc_least_by (by decide) ck_least_by (fun _ _ _ _ _ _ us hl => match us, hl with | [_, _, _], _ => rfl) a3 l3 c3 k3 (fun h => nomatch h) (fun _ => rfl)
    rw [List.lookup_cons] at h
    split at h
    · rename_i e
      cases h
      cases eq_of_beq e
      exact at_mk X G sc_put_in_order (by decide) ck_put_in_order (fun _ _ _ _ _ _ us hl => match us, hl with | [_, _, _], _ => rfl) a4 l4 c4 k4 (fun h => nomatch h) (fun h => nomatch h)
    rw [List.lookup_cons] at h
    split at h
    · rename_i e
      cases h
      cases eq_of_beq e
      exact at_mk X G sc_least (by decide) ck_least (fun _ _ _ _ _ _ us hl => match us, hl with | [_], _ => rfl) a5 l5 c5 k5 (fun _ => ⟨cd5, tabOfK K cd5, rfl, by simp⟩) (fun h => nomatch h)
    rw [List.lookup_cons] at h
    split at h
    · rename_i e
      cases h
      cases eq_of_beq e
      exact at_mk X G sc_woven (by decide) ck_woven (fun _ _ _ _ _ _ us hl => match us, hl with | [_, _, _], _ => rfl) a6 l6 c6 k6 (fun _ => ⟨cd6, tabOfK K cd6, rfl, by simp⟩) (fun _ => rfl)
    rw [List.lookup_cons] at h
    split at h
    · rename_i e
      cases h
      cases eq_of_beq e
      exact at_mk X G sc_both (by decide) ck_both (fun _ _ _ _ _ _ us hl => match us, hl with | [_, _], _ => rfl) a7 l7 c7 k7 (fun _ => ⟨cd7, tabOfK K cd7, rfl, by simp⟩) (fun h => nomatch h)
    rw [List.lookup_cons] at h
    split at h
    · rename_i e
      cases h
      cases eq_of_beq e
      exact at_mk X G sc_either (by decide) ck_either (fun _ _ _ _ _ _ us hl => match us, hl with | [_, _], _ => rfl) a8 l8 c8 k8 (fun _ => ⟨cd8, tabOfK K cd8, rfl, by simp⟩) (fun h => nomatch h)
    rw [List.lookup_cons] at h
    split at h
    · rename_i e
      cases h
      cases eq_of_beq e
      exact at_mk X G sc_without (by decide) ck_without (fun _ _ _ _ _ _ us hl => match us, hl with | [_, _], _ => rfl) a9 l9 c9 k9 (fun _ => ⟨cd9, tabOfK K cd9, rfl, by simp⟩) (fun h => nomatch h)
    rw [List.lookup_cons] at h
    split at h
    · rename_i e
      cases h
      cases eq_of_beq e
      exact at_mk X G sc_turned (by decide) ck_turned (fun _ _ _ _ _ _ us hl => match us, hl with | [_], _ => rfl) a10 l10 c10 k10 (fun _ => ⟨cd10, tabOfK K cd10, rfl, by simp⟩) (fun h => nomatch h)
    rw [List.lookup_cons] at h
    split at h
    · rename_i e
      cases h
      cases eq_of_beq e
      exact at_mk X G sc_law_stream (by decide) ck_law_stream (fun _ _ _ _ _ _ us hl => match us, hl with | [_], _ => rfl) a11 l11 c11 k11 (fun h => nomatch h) (fun h => nomatch h)
    rw [List.lookup_cons] at h
    split at h
    · rename_i e
      cases h
      cases eq_of_beq e
      exact at_mk X G sc_law_take (by decide) ck_law_take (fun _ _ _ _ _ _ us hl => match us, hl with | [_, _], _ => rfl) a12 l12 c12 k12 (fun h => nomatch h) (fun h => nomatch h)
    rw [List.lookup_cons] at h
    split at h
    · rename_i e
      cases h
      cases eq_of_beq e
      exact at_mk X G sc_law_letters (by decide) ck_law_letters (fun _ _ _ _ _ _ us hl => match us, hl with | [_], _ => rfl) a13 l13 c13 k13 (fun h => nomatch h) (fun h => nomatch h)
    rw [List.lookup_cons] at h
    split at h
    · rename_i e
      cases h
      cases eq_of_beq e
      exact at_mk X G sc_law_machine (by decide) ck_law_machine (fun _ _ _ _ _ _ us hl => match us, hl with | [_, _, _], _ => rfl) a14 l14 c14 k14 (fun h => nomatch h) (fun h => nomatch h)
    rw [List.lookup_cons] at h
    split at h
    · rename_i e
      cases h
      cases eq_of_beq e
      exact at_mk X G sc_law_word (by decide) ck_law_word (fun _ _ _ _ _ _ us hl => match us, hl with | [_, _, _], _ => rfl) a15 l15 c15 k15 (fun h => nomatch h) (fun h => nomatch h)
    rw [List.lookup_cons] at h
    split at h
    · rename_i e
      cases h
      cases eq_of_beq e
      exact at_mk X G sc_law_all_words (by decide) ck_law_all_words (fun _ _ _ _ _ _ us hl => match us, hl with | [_, _], _ => rfl) a16 l16 c16 k16 (fun h => nomatch h) (fun h => nomatch h)
    rw [List.lookup_cons] at h
    split at h
    · rename_i e
      cases h
      cases eq_of_beq e
      exact at_mk X G sc_law_words (by decide) ck_law_words (fun _ _ _ _ _ _ us hl => match us, hl with | [_, _], _ => rfl) a17 l17 c17 k17 (fun h => nomatch h) (fun h => nomatch h)
    rw [List.lookup_cons] at h
    split at h
    · rename_i e
      cases h
      cases eq_of_beq e
      exact at_mk X G sc_law_right (by decide) ck_law_right (fun _ _ _ _ _ _ us hl => match us, hl with | [_, _, _], _ => rfl) a18 l18 c18 k18 (fun h => nomatch h) (fun h => nomatch h)
    rw [List.lookup_cons] at h
    split at h
    · rename_i e
      cases h
      cases eq_of_beq e
      exact at_mk X G sc_law (by decide) ck_law (fun _ _ _ _ _ _ us hl => match us, hl with | [_], _ => rfl) a19 l19 c19 k19 (fun h => nomatch h) (fun h => nomatch h)
    rw [List.lookup_cons] at h
    split at h
    · cases h
      exact absurd rfl hk
    rw [List.lookup_cons] at h
    split at h
    · cases h
      exact absurd rfl hk
    rw [List.lookup_cons] at h
    split at h
    · cases h
      exact absurd rfl hk
    rw [List.lookup_cons] at h
    split at h
    · cases h
      exact absurd rfl hk
    rw [List.lookup_cons] at h
    split at h
    · cases h
      exact absurd rfl hk
    rw [List.lookup_cons] at h
    split at h
    · cases h
      exact absurd rfl hk
    cases h
  exact law_at (cs := [(cd5, tabOfK K cd5), (cd6, tabOfK K cd6), (cd7, tabOfK K cd7), (cd8, tabOfK K cd8), (cd9, tabOfK K cd9), (cd10, tabOfK K cd10)]) X hfa (fun p hp => by
    simp only [List.mem_cons, List.not_mem_nil, or_false] at hp
    rcases hp with rfl | rfl | rfl | rfl | rfl | rfl
    · exact tt5
    · exact tt6
    · exact tt7
    · exact tt8
    · exact tt9
    · exact tt10) (fun p hp => by
    simp only [List.mem_cons, List.not_mem_nil, or_false] at hp
    rcases hp with rfl | rfl | rfl | rfl | rfl | rfl
    · exact tn5
    · exact tn6
    · exact tn7
    · exact tn8
    · exact tn9
    · exact tn10) (fun p hp => by
    simp only [List.mem_cons, List.not_mem_nil, or_false] at hp
    rcases hp with rfl | rfl | rfl | rfl | rfl | rfl
    · exact th5
    · exact th6
    · exact th7
    · exact th8
    · exact th9
    · exact th10) bi da rfl rfl rfl rfl rfl lt
end K
open PySem PySem.W PyProof.Rows
set_option maxHeartbeats 0 in
theorem PySem.Challenge.cw_likehands_k06_whole_sets_by_words_alone_holds : PySem.Challenge.rw_likehands_k06_whole_sets_by_words_alone.Holds := by
  w_on; o_law; k_head; (case hw => w_witness2)
  k_fill
  refine LamX.walk_ofTs (l := PySem.Challenge.rw_likehands_k06_whole_sets_by_words_alone) (n := 63) (k := 30) (x := "script") (CX := fun _ => L2.CX0) rfl (by decide) rfl ⟨rfl, by decide, by decide⟩ (fun w h Y => PySem.W.km_in_of Y) ?F (fun _ _ _ _ _ h => h)
  case F =>
    intro w mg fa h Y KX G hmg
    refine' K.fin (n := K.fuel) (k := 29) KX G hmg K.law_true ?a0 ?l0 ?c0 ?k0 ?a1 ?l1 ?c1 ?k1 ?a2 ?l2 ?c2 ?k2 ?a3 ?l3 ?c3 ?k3 ?a4 ?l4 ?c4 ?k4 ?a5 ?l5 ?c5 ?k5 ?a6 ?l6 ?c6 ?k6 ?a7 ?l7 ?c7 ?k7 ?a8 ?l8 ?c8 ?k8 ?a9 ?l9 ?c9 ?k9 ?a10 ?l10 ?c10 ?k10 ?a11 ?l11 ?c11 ?k11 ?a12 ?l12 ?c12 ?k12 ?a13 ?l13 ?c13 ?k13 ?a14 ?l14 ?c14 ?k14 ?a15 ?l15 ?c15 ?k15 ?a16 ?l16 ?c16 ?k16 ?a17 ?l17 ?c17 ?k17 ?a18 ?l18 ?c18 ?k18 ?a19 ?l19 ?c19 ?k19 ?z0 ?z1 ?z2 ?z3 ?z4 ?z5 ?z6 ?z7 ?z8 ?z9 ?z10 ?z11 ?z12 ?z13 ?z14 ?z15 ?z16 ?z17 ?z18 ?z19 ?th5 ?tn5 ?tt5 ?th6 ?tn6 ?tt6 ?th7 ?tn7 ?tt7 ?th8 ?tn8 ?tt8 ?th9 ?tn9 ?tt9 ?th10 ?tn10 ?tt10
    (case a0 => k_is); (case l0 => k_is); (case c0 => k_is); (case k0 => k_is); (case a1 => k_is); (case l1 => k_is); (case c1 => k_is); (case k1 => k_is); (case a2 => k_is); (case l2 => k_is); (case c2 => k_is); (case k2 => k_is); (case a3 => k_is); (case l3 => k_is); (case c3 => k_is); (case k3 => k_is); (case a4 => k_is); (case l4 => k_is); (case c4 => k_is); (case k4 => k_is); (case a5 => k_is); (case l5 => k_is); (case c5 => k_is); (case k5 => k_is); (case a6 => k_is); (case l6 => k_is); (case c6 => k_is); (case k6 => k_is); (case a7 => k_is); (case l7 => k_is); (case c7 => k_is); (case k7 => k_is); (case a8 => k_is); (case l8 => k_is); (case c8 => k_is); (case k8 => k_is); (case a9 => k_is); (case l9 => k_is); (case c9 => k_is); (case k9 => k_is); (case a10 => k_is); (case l10 => k_is); (case c10 => k_is); (case k10 => k_is); (case a11 => k_is); (case l11 => k_is); (case c11 => k_is); (case k11 => k_is); (case a12 => k_is); (case l12 => k_is); (case c12 => k_is); (case k12 => k_is); (case a13 => k_is); (case l13 => k_is); (case c13 => k_is); (case k13 => k_is); (case a14 => k_is); (case l14 => k_is); (case c14 => k_is); (case k14 => k_is); (case a15 => k_is); (case l15 => k_is); (case c15 => k_is); (case k15 => k_is); (case a16 => k_is); (case l16 => k_is); (case c16 => k_is); (case k16 => k_is); (case a17 => k_is); (case l17 => k_is); (case c17 => k_is); (case k17 => k_is); (case a18 => k_is); (case l18 => k_is); (case c18 => k_is); (case k18 => k_is); (case a19 => k_is); (case l19 => k_is); (case c19 => k_is); (case k19 => k_is); (case z0 => k_is); (case z1 => k_is); (case z2 => k_is); (case z3 => k_is); (case z4 => k_is); (case z5 => k_is); (case z6 => k_is); (case z7 => k_is); (case z8 => k_is); (case z9 => k_is); (case z10 => k_is); (case z11 => k_is); (case z12 => k_is); (case z13 => k_is); (case z14 => k_is); (case z15 => k_is); (case z16 => k_is); (case z17 => k_is); (case z18 => k_is); (case z19 => k_is)
    (case th5 => exact rfl)
    (case tn5 => exact rfl)
    (case tt5 => exact PySem.W.km_tabs_of Y _ (List.mem_of_elem_eq_true rfl))
    (case th6 => exact rfl)
    (case tn6 => exact rfl)
    (case tt6 => exact PySem.W.km_tabs_of Y _ (List.mem_of_elem_eq_true rfl))
    (case th7 => exact rfl)
    (case tn7 => exact rfl)
    (case tt7 => exact PySem.W.km_tabs_of Y _ (List.mem_of_elem_eq_true rfl))
    (case th8 => exact rfl)
    (case tn8 => exact rfl)
    (case tt8 => exact PySem.W.km_tabs_of Y _ (List.mem_of_elem_eq_true rfl))
    (case th9 => exact rfl)
    (case tn9 => exact rfl)
    (case tt9 => exact PySem.W.km_tabs_of Y _ (List.mem_of_elem_eq_true rfl))
    (case th10 => exact rfl)
    (case tn10 => exact rfl)
    (case tt10 => exact PySem.W.km_tabs_of Y _ (List.mem_of_elem_eq_true rfl))

