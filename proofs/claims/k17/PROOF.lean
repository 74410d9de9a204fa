import PyProof.Rows.All
import Wide.All
import OpenK.AllK
import Wide.FinOn
import HandS.ForMost
import HandS.Wide
import HandS.Star
import HandS.Conv
import HandS.SortInts
import HandS.Walk
import HandS.NoneIn
import HandS.IsInst
import KE.GoesEnum
import HandS.Flow
import HandS.Words
import HandS.Defaults
import HandS.HeadHook2
import HandS.Deep
import HandS.TupAny
import HandS.StrMore
import HandS.Text
import KE.KUnpackStar
import KE.KDictZip
import HandS.OwnIter
import HandS.MapJoin
import HandS.WideBits
import HandS.SlotsOwn
import PyProof.InstEq
import HandS.ClsMeth
import HandS.FStr
import KE.KCallOwn
import KE.KFmtOwn
import HandS.Iter
import HandS.SetFor
import HandS.Strs
import OpenK.KMeth
import HandS.Ends
import HandS.HeadEnd
import PyProof.ReprRoads
import HandS.Codes
import HandS.Head0
import HandS.Head1
import HandS.Head2
import HandS.HeadHook1
import HandS.RaiseMore
import PySem.Challenge.RW_sharetable_k17_whole_products_of_great_p
set_option Elab.async false
set_option linter.all false
set_option maxRecDepth 100000
set_option maxHeartbeats 4000000
/-! DA: data, what stands for it in a heap, a frame's data environment, the lifts -/
namespace DL
open PySem PySem.Spec L2

/-- data, without addresses -/
inductive D where
  | non | bl (b : Bool) | int (i : Int) | str (x : Str) | lst (xs : List D) | tup (xs : List D)
  | obj (c : Str) (ns : List Str) (ds : List D) | src | dct (ks : List Key) (ds : List D) | ty (T : String) | cls (c : Str) | klst (xs : List D) | adr (a : Addr)

/-- a written list, a written tuple -/
def KLs (K : PySem.W.Frag) (a : Addr) (xs : List V) : Prop := ∃ (o : Obj) (its : Array Value) (n : Nat), K.lookup a = some o ∧ o.cls = .type "list" ∧ o.dict = none ∧ o.data = .seq its n ∧ its.size ≤ sizeLine ∧ Vals xs its.toList
def KTp (K : PySem.W.Frag) (a : Addr) (xs : List V) : Prop := ∃ (o : Obj) (its : Array Value) (n : Nat), K.lookup a = some o ∧ o.cls = .type "tuple" ∧ o.data = .seq its n ∧ its.size ≤ sizeLine ∧ Vals xs its.toList

/-- the draws' source: a list of three ints -/
def SrcO (h : Heap) (a : Addr) : Prop := ∃ (d s c : Int) (t u v : Tok) (n : Nat), h.get? a = some { cls := .type "list", data := .seq #[.int d t, .int s u, .int c v] n }

section
variable (K : PySem.W.Frag) (ca : Str → Addr) (H : Hp) (k : Addr → Prop)
mutual
def Dv : D → V → Prop
  | .non, v => v = .non
  | .bl b, v => v = .bl b
  | .int i, v => v = .int i
  | .str x, v => v = .str x
  | .lst xs, v => ∃ p vs, v = .ref p ∧ k p ∧ H p = some (.lst vs) ∧ DvL xs vs
  | .tup xs, v => ∃ p vs, v = .ref p ∧ ((k p ∧ Rd H p (.tup vs)) ∨ KTp K p vs) ∧ DvL xs vs
  | .obj c ns ds, v => ∃ p dx vs, v = .ref p ∧ k p ∧ H p = some (.ins (ca c) dx (ns.zip vs)) ∧ ns.length = vs.length ∧ DvL ds vs
  | .src, v => ∃ p, v = .ref p ∧ k p ∧ H p = some (.ext fun h => SrcO h p)
  | .dct ks ds, v => ∃ p vs, v = .ref p ∧ k p ∧ H p = some (.dK (ks.zip vs)) ∧ ks.length = vs.length ∧ DvL ds vs
  | .ty T, v => v = .ty T
  | .cls c, v => v = .ref (ca c)
  | .adr a, v => v = .ref a
  | .klst xs, v => ∃ p vs, v = .ref p ∧ ((k p ∧ Rd H p (.lst vs)) ∨ KLs K p vs) ∧ DvL xs vs
def DvL : List D → List V → Prop
  | [], vs => vs = []
  | d :: ds, vs => ∃ v r, vs = v :: r ∧ Dv d v ∧ DvL ds r
end
end
section
variable {K : PySem.W.Frag} {ca : Str → Addr} {H H' : Hp} {k k' : Addr → Prop}
/-- what of H stands at the addresses of k, stands in H' at those of k' -/
def Stp (k : Addr → Prop) (H : Hp) (k' : Addr → Prop) (H' : Hp) : Prop := ∀ b u, k b → H b = some u → k' b ∧ H' b = some u
theorem Stp.refl : Stp k H k H := fun _ _ a b => ⟨a, b⟩
theorem Stp.trans {k2 : Addr → Prop} {H2 : Hp} (a : Stp k H k' H') (b : Stp k' H' k2 H2) : Stp k H k2 H2 := fun c u x y => let ⟨x', y'⟩ := a c u x y; b c u x' y'
theorem Stp.same (h : Same H H') : Stp k H k H' := fun b u x y => ⟨x, h b u y⟩
theorem Stp.weak (h : ∀ b, k b → k' b) : Stp k H k' H := fun b u x y => ⟨h b x, y⟩
theorem Stp.rd (s : Stp k H k' H') {p : Addr} {u : HO} (h : k p ∧ Rd H p u) : k' p ∧ Rd H' p u := by
  obtain ⟨hk, h | ⟨o, h⟩⟩ := h
  · obtain ⟨a, b⟩ := s _ _ hk h
    exact ⟨a, .inl b⟩
  · obtain ⟨a, b⟩ := s _ _ hk h
    exact ⟨a, .inr ⟨o, b⟩⟩
mutual
theorem Dv.mono (s : Stp k H k' H') : ∀ (d : D) (v : V), Dv K ca H k d v → Dv K ca H' k' d v
  | .non, v, h => h
  | .bl b, v, h => h
  | .int i, v, h => h
  | .str x, v, h => h
  | .lst xs, v, h => by
    obtain ⟨p, vs, e, hk, hp, hl⟩ := h
    obtain ⟨a, b⟩ := s _ _ hk hp
    exact ⟨p, vs, e, a, b, DvL.mono s xs vs hl⟩
  | .tup xs, v, h => by
    obtain ⟨p, vs, e, hp, hl⟩ := h
    exact ⟨p, vs, e, hp.elim (fun z => .inl (s.rd z)) .inr, DvL.mono s xs vs hl⟩
  | .obj c ns ds, v, h => by
    obtain ⟨p, dx, vs, e, hk, hp, hn, hl⟩ := h
    obtain ⟨a, b⟩ := s _ _ hk hp
    exact ⟨p, dx, vs, e, a, b, hn, DvL.mono s ds vs hl⟩
  | .src, v, h => by
    obtain ⟨p, e, hk, hp⟩ := h
    obtain ⟨a, b⟩ := s _ _ hk hp
    exact ⟨p, e, a, b⟩
  | .dct ks ds, v, h => by
    obtain ⟨p, vs, e, hk, hp, hn, hl⟩ := h
    obtain ⟨a, b⟩ := s _ _ hk hp
    exact ⟨p, vs, e, a, b, hn, DvL.mono s ds vs hl⟩
  | .ty T, v, h => h
  | .cls c, v, h => h
  | .adr a, v, h => h
  | .klst xs, v, h => by
    obtain ⟨p, vs, e, hp, hl⟩ := h
    exact ⟨p, vs, e, hp.elim (fun z => .inl (s.rd z)) .inr, DvL.mono s xs vs hl⟩
theorem DvL.mono (s : Stp k H k' H') : ∀ (ds : List D) (vs : List V), DvL K ca H k ds vs → DvL K ca H' k' ds vs
  | [], vs, h => h
  | d :: ds, vs, h => by
    obtain ⟨v, r, e, h1, h2⟩ := h
    exact ⟨v, r, e, Dv.mono s d v h1, DvL.mono s ds r h2⟩
end
theorem DvL.length : ∀ {ds : List D} {vs : List V}, DvL K ca H k ds vs → ds.length = vs.length
  | [], vs, h => by
    have e : vs = [] := h
    rw [e] <;> rfl
  | d :: ds, vs, h => by
    obtain ⟨v, r, e, _, h2⟩ := h
    rw [e, List.length_cons, List.length_cons, h2.length]
theorem DvL.nil : DvL K ca H k [] [] := rfl
theorem DvL.cons {d : D} {ds : List D} {v : V} {vs : List V} (a : Dv K ca H k d v) (b : DvL K ca H k ds vs) : DvL K ca H k (d :: ds) (v :: vs) := ⟨v, vs, rfl, a, b⟩
theorem DvL.inv {d : D} {ds : List D} {vs : List V} (h : DvL K ca H k (d :: ds) vs) : ∃ v r, vs = v :: r ∧ Dv K ca H k d v ∧ DvL K ca H k ds r := h
theorem DvL.append : ∀ {ds es : List D} {vs ws : List V}, DvL K ca H k ds vs → DvL K ca H k es ws → DvL K ca H k (ds ++ es) (vs ++ ws)
  | [], es, vs, ws, h, h2 => by
    have e : vs = [] := h
    rw [e]
    exact h2
  | d :: ds, es, vs, ws, h, h2 => by
    obtain ⟨v, r, e, a, b⟩ := h
    rw [e]
    exact ⟨v, r ++ ws, rfl, a, DvL.append b h2⟩
theorem DvL.get : ∀ {ds : List D} {vs : List V} {i : Nat} {d : D}, DvL K ca H k ds vs → ds[i]? = some d → ∃ v, vs[i]? = some v ∧ Dv K ca H k d v
  | [], _, _, _, _, e => by simp at e
  | d :: ds, vs, 0, x, h, e => by
    obtain ⟨v, r, e1, a, _⟩ := h
    have e2 : d = x := by simpa using e
    subst e2
    exact ⟨v, by rw [e1] <;> rfl, a⟩
  | d :: ds, vs, i + 1, x, h, e => by
    obtain ⟨v, r, e1, _, b⟩ := h
    obtain ⟨w, e2, q⟩ := DvL.get (i := i) b (by simpa using e)
    exact ⟨w, by rw [e1]; simpa using e2, q⟩
theorem DvL.getV : ∀ {ds : List D} {vs : List V} {i : Nat} {v : V}, DvL K ca H k ds vs → vs[i]? = some v → ∃ d, ds[i]? = some d ∧ Dv K ca H k d v
  | [], vs, _, _, h, e => by
    have e1 : vs = [] := h
    rw [e1] at e
    simp at e
  | d :: ds, vs, 0, x, h, e => by
    obtain ⟨v, r, e1, a, _⟩ := h
    rw [e1] at e
    have e2 : v = x := by simpa using e
    subst e2
    exact ⟨d, rfl, a⟩
  | d :: ds, vs, i + 1, x, h, e => by
    obtain ⟨v, r, e1, _, b⟩ := h
    rw [e1] at e
    obtain ⟨w, e2, q⟩ := DvL.getV (i := i) b (by simpa using e)
    exact ⟨w, by simpa using e2, q⟩
theorem DvL.take : ∀ {ds : List D} {vs : List V} (n : Nat), DvL K ca H k ds vs → DvL K ca H k (ds.take n) (vs.take n)
  | [], vs, n, h => by
    have e : vs = [] := h
    rw [e]
    simp
    exact DvL.nil
  | d :: ds, vs, 0, h => by simp; exact DvL.nil
  | d :: ds, vs, n + 1, h => by
    obtain ⟨v, r, e, a, b⟩ := h
    rw [e]
    exact ⟨v, _, rfl, a, DvL.take n b⟩
theorem DvL.drop : ∀ {ds : List D} {vs : List V} (n : Nat), DvL K ca H k ds vs → DvL K ca H k (ds.drop n) (vs.drop n)
  | [], vs, n, h => by
    have e : vs = [] := h
    rw [e]
    simp
    exact DvL.nil
  | d :: ds, vs, 0, h => h
  | d :: ds, vs, n + 1, h => by
    obtain ⟨v, r, e, a, b⟩ := h
    rw [e]
    exact DvL.drop n b
theorem DvL.set {x : D} {v : V} (hx : Dv K ca H k x v) : ∀ {ds : List D} {vs : List V} (i : Nat), DvL K ca H k ds vs → DvL K ca H k (ds.set i x) (vs.set i v)
  | [], vs, i, h => by
    have e : vs = [] := h
    rw [e]
    exact DvL.nil
  | d :: ds, vs, 0, h => by
    obtain ⟨w, r, e, a, b⟩ := h
    rw [e]
    exact ⟨v, r, rfl, hx, b⟩
  | d :: ds, vs, i + 1, h => by
    obtain ⟨w, r, e, a, b⟩ := h
    rw [e]
    exact ⟨w, _, rfl, a, DvL.set hx i b⟩
theorem DvL.eraseIdx : ∀ {ds : List D} {vs : List V} (i : Nat), DvL K ca H k ds vs → DvL K ca H k (ds.eraseIdx i) (vs.eraseIdx i)
  | [], vs, i, h => by
    have e : vs = [] := h
    rw [e]
    exact DvL.nil
  | d :: ds, vs, 0, h => by
    obtain ⟨w, r, e, a, b⟩ := h
    rw [e]
    exact b
  | d :: ds, vs, i + 1, h => by
    obtain ⟨w, r, e, a, b⟩ := h
    rw [e]
    exact ⟨w, _, rfl, a, DvL.eraseIdx i b⟩
/-- ints -/
theorem DvL.ints : ∀ {ns : List Int} {vs : List V}, DvL K ca H k (ns.map D.int) vs → vs = ns.map V.int
  | [], vs, h => h
  | n :: ns, vs, h => by
    obtain ⟨v, r, e, a, b⟩ := h
    have a' : v = .int n := a
    rw [e, a', DvL.ints b] <;> rfl
theorem DvL.of_ints : ∀ (ns : List Int), DvL K ca H k (ns.map D.int) (ns.map V.int)
  | [] => rfl
  | n :: ns => ⟨_, _, rfl, rfl, DvL.of_ints ns⟩
theorem DvL.strs : ∀ {ns : List Str} {vs : List V}, DvL K ca H k (ns.map D.str) vs → vs = ns.map V.str
  | [], vs, h => h
  | n :: ns, vs, h => by
    obtain ⟨v, r, e, a, b⟩ := h
    have a' : v = .str n := a
    rw [e, a', DvL.strs b] <;> rfl
theorem DvL.of_strs : ∀ (ns : List Str), DvL K ca H k (ns.map D.str) (ns.map V.str)
  | [] => rfl
  | n :: ns => ⟨_, _, rfl, rfl, DvL.of_strs ns⟩
theorem DvL.bls : ∀ {ns : List Bool} {vs : List V}, DvL K ca H k (ns.map D.bl) vs → vs = ns.map V.bl
  | [], vs, h => h
  | n :: ns, vs, h => by
    obtain ⟨v, r, e, a, b⟩ := h
    have a' : v = .bl n := a
    rw [e, a', DvL.bls b] <;> rfl
theorem DvL.of_bls : ∀ (ns : List Bool), DvL K ca H k (ns.map D.bl) (ns.map V.bl)
  | [] => rfl
  | n :: ns => ⟨_, _, rfl, rfl, DvL.of_bls ns⟩
/-- a value in a full heap: shared data, or a list of the frame's own -/
def DvW (K : PySem.W.Frag) (ca : Str → Addr) (H : Hp) (k : Addr → Prop) (d : D) (v : V) : Prop :=
  Dv K ca H k d v ∨ ∃ xs p vs, d = .lst xs ∧ v = .ref p ∧ H p = some (.lst vs) ∧ DvL K ca H k xs vs
theorem DvW.of {d : D} {v : V} (h : Dv K ca H k d v) : DvW K ca H k d v := .inl h
theorem DvW.mono (s : Same H H') {d : D} {v : V} (h : DvW K ca H k d v) : DvW K ca H' k d v := by
  rcases h with h | ⟨xs, p, vs, e1, e2, e3, h⟩
  · exact .inl (Dv.mono (Stp.same s) _ _ h)
  · exact .inr ⟨xs, p, vs, e1, e2, s _ _ e3, DvL.mono (Stp.same s) _ _ h⟩
theorem DvW.lstH {xs : List D} {v : V} (h : DvW K ca H k (.lst xs) v) : ∃ p vs, v = .ref p ∧ H p = some (.lst vs) ∧ DvL K ca H k xs vs := by
  rcases h with ⟨p, vs, e, hk, hp, hl⟩ | ⟨ys, p, vs, e1, e2, e3, h⟩
  · exact ⟨p, vs, e, hp, hl⟩
  · injection e1 with e1
    subst e1
    exact ⟨p, vs, e2, e3, h⟩
/-- the items of a list, ours or written -/
def lsD : D → Option (List D)
  | .lst xs => some xs
  | .klst xs => some xs
  | _ => none
theorem DvW.ls {d : D} {xs : List D} {v : V} (h : DvW K ca H k d v) (hx : lsD d = some xs) : ∃ p vs, v = .ref p ∧ SqL K H p vs ∧ DvL K ca H k xs vs := by
  cases d with
  | lst ys =>
    have e : ys = xs := Option.some.inj hx
    subst e
    obtain ⟨p, vs, e1, e2, e3⟩ := h.lstH
    exact ⟨p, vs, e1, SqL.of e2, e3⟩
  | klst ys =>
    have e : ys = xs := Option.some.inj hx
    subst e
    rcases h with ⟨p, vs, e, hp, hl⟩ | ⟨ys, p, vs, e1, e2, e3, h⟩
    · exact ⟨p, vs, e, hp.elim (fun z => .inl z.2) .inr, hl⟩
    · cases e1
  | _ => cases hx
theorem DvW.tup {xs : List D} {v : V} (h : DvW K ca H k (.tup xs) v) : ∃ p vs, v = .ref p ∧ SqT K H p vs ∧ DvL K ca H k xs vs := by
  rcases h with ⟨p, vs, e, hp, hl⟩ | ⟨ys, p, vs, e1, e2, e3, h⟩
  · exact ⟨p, vs, e, hp.elim (fun z => .inl z.2) .inr, hl⟩
  · cases e1
theorem DvW.int {i : Int} {v : V} (h : DvW K ca H k (.int i) v) : v = .int i := by
  rcases h with h | ⟨ys, p, vs, e1, e2, e3, h⟩
  · exact h
  · cases e1
theorem DvW.str {i : Str} {v : V} (h : DvW K ca H k (.str i) v) : v = .str i := by
  rcases h with h | ⟨ys, p, vs, e1, e2, e3, h⟩
  · exact h
  · cases e1
theorem DvW.bl {i : Bool} {v : V} (h : DvW K ca H k (.bl i) v) : v = .bl i := by
  rcases h with h | ⟨ys, p, vs, e1, e2, e3, h⟩
  · exact h
  · cases e1
theorem DvW.non {v : V} (h : DvW K ca H k .non v) : v = .non := by
  rcases h with h | ⟨ys, p, vs, e1, e2, e3, h⟩
  · exact h
  · cases e1
theorem DvW.obj {c : Str} {ns : List Str} {ds : List D} {v : V} (h : DvW K ca H k (.obj c ns ds) v) : ∃ p dx vs, v = .ref p ∧ H p = some (.ins (ca c) dx (ns.zip vs)) ∧ ns.length = vs.length ∧ DvL K ca H k ds vs := by
  rcases h with ⟨p, dx, vs, e, hk, hp, hn, hl⟩ | ⟨ys, p, vs, e1, e2, e3, h⟩
  · exact ⟨p, dx, vs, e, hp, hn, hl⟩
  · cases e1
/-- a new list, a new tuple -/
theorem Dv.newL {xs : List D} {vs : List V} {p : Addr} (hk : k p) (hp : H p = some (.lst vs)) (h : DvL K ca H k xs vs) : Dv K ca H k (.lst xs) (.ref p) := ⟨p, vs, rfl, hk, hp, h⟩
theorem Dv.newT {xs : List D} {vs : List V} {p : Addr} (hk : k p) (hp : H p = some (.tup vs)) (h : DvL K ca H k xs vs) : Dv K ca H k (.tup xs) (.ref p) := ⟨p, vs, rfl, .inl ⟨hk, .inl hp⟩, h⟩
theorem same_new {p : Addr} {u : HO} (h : H p = none) : Same H (upd H p u) := fun b o e => by
  rw [upd_ne (ne_of_none e h)]
  exact e
end

/-! ### a frame's data environment -/
inductive Ent where
  | sh (d : D) | ol (xs : List D) | ln (xs : List D) | un
abbrev DEnv := List Ent
/-- the addresses that shared data may lie at -/
def okA (B : Addr → Prop) (e : DEnv) (o : Nat → Addr) (b : Addr) : Prop := ¬ B b ∧ ∀ (i : Nat) (xs : List D), e[i]? = some (Ent.ol xs) → o i ≠ b
/-- the addresses that are no list of the frame's own -/
def okN (e : DEnv) (o : Nat → Addr) (b : Addr) : Prop := ∀ (i : Nat) (xs : List D), e[i]? = some (Ent.ol xs) → o i ≠ b
theorem Stp.a {B : Addr → Prop} {e e' : DEnv} {o o' : Nat → Addr} {H H' : Hp} (s : Stp (okN e o) H (okN e' o') H') : Stp (okA B e o) H (okA B e' o') H' := fun b u hb hu =>
  let ⟨x, y⟩ := s b u hb.2 hu
  ⟨⟨hb.1, x⟩, y⟩
theorem Stp.ab {B B' : Addr → Prop} {e e' : DEnv} {o o' : Nat → Addr} {H H' : Hp} (s : Stp (okN e o) H (okN e' o') H') (h : ∀ b u, H b = some u → ¬ B b → ¬ B' b) : Stp (okA B e o) H (okA B' e' o') H' := fun b u hb hu =>
  let ⟨x, y⟩ := s b u hb.2 hu
  ⟨⟨h b u hu hb.1, x⟩, y⟩
structure Rep (K : PySem.W.Frag) (ca : Str → Addr) (B : Addr → Prop) (H0 H : Hp) (σ : L2.St) (e : DEnv) (o : Nat → Addr) : Prop where
  sh : ∀ (i : Nat) (d : D), e[i]? = some (Ent.sh d) → ∃ v, σ[i]? = some (some v) ∧ Dv K ca H (okA B e o) d v
  ol : ∀ (i : Nat) (xs : List D), e[i]? = some (Ent.ol xs) → σ[i]? = some (some (V.ref (o i))) ∧ ∃ vs, H (o i) = some (.lst vs) ∧ DvL K ca H (okA B e o) xs vs
  ne : ∀ (i j : Nat) (xs ys : List D), e[i]? = some (Ent.ol xs) → e[j]? = some (Ent.ol ys) → i ≠ j → o i ≠ o j
  fr : ∀ (i : Nat) (xs : List D), e[i]? = some (Ent.ol xs) → H0 (o i) = none
  nb : ∀ (i : Nat) (xs : List D), e[i]? = some (Ent.ol xs) → ¬ B (o i)
  sm : Same H0 H
  bd : ∀ b, B b → H b ≠ none
  ln : e.length ≤ σ.length
  lt : ∀ (i : Nat) (xs : List D), e[i]? = some (Ent.ln xs) → ∃ q vs, σ[i]? = some (some (V.ref q)) ∧ H0 q = some (.lst vs) ∧ DvL K ca H (okA B e o) xs vs
/-- an operand: a value, or what stands in a slot when it is asked -/
inductive Opd where
  | val (d : D) | slot (i : Nat)
def look (e : DEnv) : Opd → Option D
  | .val d => some d
  | .slot i => match e[i]? with
    | some (.sh d) => some d
    | some (.ol xs) => some (.lst xs)
    | some (.ln xs) => some (.lst xs)
    | _ => none
def OpV (K : PySem.W.Frag) (ca : Str → Addr) (H : Hp) (k : Addr → Prop) (σ : L2.St) : Opd → V → Prop
  | .val d, v => Dv K ca H k d v
  | .slot i, v => σ[i]? = some (some v)
abbrev TD := DEnv → (D → DEnv → Prop) → Prop
abbrev TDO := DEnv → (Opd → DEnv → Prop) → Prop
abbrev TDT := DEnv → (Bool → DEnv → Prop) → Prop
abbrev TDA := DEnv → (List Opd → DEnv → Prop) → Prop
abbrev TDF := DEnv → (List D → DEnv → Prop) → Prop
structure DEnds where
  nx : DEnv → Prop
  rt : D → Prop
  bk : DEnv → Prop := fun _ => False
  ct : DEnv → Prop := fun _ => False
abbrev TDS := DEnds → DEnv → Prop
section
variable {K : PySem.W.Frag} {ca : Str → Addr} {B : Addr → Prop} {H0 H H' : Hp} {σ : L2.St} {e e' : DEnv} {o o' : Nat → Addr}
theorem Rep.new (R : Rep K ca B H0 H σ e o) {p : Addr} (h : H p = none) : okA B e o p :=
  ⟨fun z => R.bd p z h, fun i xs hi z => by
    obtain ⟨_, vs, e1, _⟩ := R.ol i xs hi
    rw [z, h] at e1
    cases e1⟩
theorem Rep.look (R : Rep K ca B H0 H σ e o) {a : Opd} {d : D} {v : V} (ho : OpV K ca H (okA B e o) σ a v) (hl : DL.look e a = some d) : DvW K ca H (okA B e o) d v := by
  cases a with
  | val x =>
    have e1 : x = d := Option.some.inj hl
    subst e1
    exact .inl ho
  | slot i =>
    have ho' : σ[i]? = some (some v) := ho
    have hl' : (match e[i]? with
      | some (.sh d) => some d
      | some (.ol xs) => some (.lst xs)
      | some (.ln xs) => some (.lst xs)
      | _ => none) = some d := hl
    cases q : e[i]? with
    | none => rw [q] at hl'; cases hl'
    | some z =>
      rw [q] at hl'
      cases z with
      | sh x =>
        have e1 : x = d := Option.some.inj hl'
        subst e1
        obtain ⟨w, e2, h⟩ := R.sh i x q
        rw [ho'] at e2
        have e3 : v = w := Option.some.inj (Option.some.inj e2)
        rw [e3]
        exact .inl h
      | ol xs =>
        have e1 : D.lst xs = d := Option.some.inj hl'
        subst e1
        obtain ⟨e2, vs, e3, h⟩ := R.ol i xs q
        rw [ho'] at e2
        have e4 : v = .ref (o i) := Option.some.inj (Option.some.inj e2)
        exact .inr ⟨xs, o i, vs, rfl, e4, e3, h⟩
      | ln xs =>
        have e1 : D.lst xs = d := Option.some.inj hl'
        subst e1
        obtain ⟨q, vs, e2, e3, h⟩ := R.lt i xs q
        rw [ho'] at e2
        have e4 : v = .ref q := Option.some.inj (Option.some.inj e2)
        exact .inr ⟨xs, q, vs, rfl, e4, R.sm _ _ e3, h⟩
      | un => cases hl'
/-- objects are made -/
theorem Rep.grow (R : Rep K ca B H0 H σ e o) (s : Same H H') : Rep K ca B H0 H' σ e o where
  sh := fun i d hi => let ⟨v, e1, h⟩ := R.sh i d hi; ⟨v, e1, Dv.mono (Stp.same s) _ _ h⟩
  ol := fun i xs hi => let ⟨e1, vs, e2, h⟩ := R.ol i xs hi; ⟨e1, vs, s _ _ e2, DvL.mono (Stp.same s) _ _ h⟩
  ne := R.ne
  fr := R.fr
  nb := R.nb
  sm := R.sm.trans s
  bd := fun b hb z => by
    cases q : H b with
    | none => exact R.bd b hb q
    | some u =>
      rw [s b u q] at z
      cases z
  ln := R.ln
  lt := fun i xs hi => let ⟨q, vs, e1, e2, h⟩ := R.lt i xs hi; ⟨q, vs, e1, e2, DvL.mono (Stp.same s) _ _ h⟩
/-- fewer addresses shut out -/
theorem Rep.wide {B' : Addr → Prop} (R : Rep K ca B' H0 H σ e o) (h : ∀ b, B b → B' b) : Rep K ca B H0 H σ e o :=
  have w : ∀ b, okA B' e o b → okA B e o b := fun b z => ⟨fun q => z.1 (h b q), z.2⟩
  { sh := fun i d hi => let ⟨v, e1, q⟩ := R.sh i d hi; ⟨v, e1, Dv.mono (Stp.weak w) _ _ q⟩
    ol := fun i xs hi => let ⟨e1, vs, e2, q⟩ := R.ol i xs hi; ⟨e1, vs, e2, DvL.mono (Stp.weak w) _ _ q⟩
    ne := R.ne, fr := R.fr, nb := fun i xs hi z => R.nb i xs hi (h _ z), sm := R.sm, bd := fun b hb => R.bd b (h b hb), ln := R.ln
    lt := fun i xs hi => let ⟨q, vs, e1, e2, z⟩ := R.lt i xs hi; ⟨q, vs, e1, e2, DvL.mono (Stp.weak w) _ _ z⟩ }
theorem get_set_self {α : Type} {l : List α} {i : Nat} {x : α} (h : i < l.length) : (l.set i x)[i]? = some x := by simp [h]
theorem ol_of_set {i m : Nat} {d : D} {zs : List D} (hm : (e.set i (Ent.sh d))[m]? = some (Ent.ol zs)) : e[m]? = some (Ent.ol zs) ∧ i ≠ m := by
  by_cases hij : i = m
  · subst hij
    by_cases hl : i < e.length
    · rw [get_set_self hl] at hm
      cases hm
    · rw [List.getElem?_eq_none (by simpa using hl)] at hm
      cases hm
  · rw [List.getElem?_set_ne hij] at hm
    exact ⟨hm, hij⟩
theorem ln_of_set {i m : Nat} {x : Ent} {zs : List D} (hx : ∀ ys, x ≠ Ent.ln ys) (hm : (e.set i x)[m]? = some (Ent.ln zs)) : e[m]? = some (Ent.ln zs) ∧ i ≠ m := by
  by_cases hij : i = m
  · subst hij
    by_cases hl : i < e.length
    · rw [get_set_self hl] at hm
      exact absurd (Option.some.inj hm) (hx zs)
    · rw [List.getElem?_eq_none (by simpa using hl)] at hm
      cases hm
  · rw [List.getElem?_set_ne hij] at hm
    exact ⟨hm, hij⟩
/-- an entry's slot takes shared data -/
theorem okA_set {i : Nat} {d : D} : ∀ b, okA B e o b → okA B (e.set i (.sh d)) o b := fun b z => ⟨z.1, fun j xs hj => z.2 j xs (ol_of_set hj).1⟩
theorem okN_set {i : Nat} {d : D} : ∀ b, okN e o b → okN (e.set i (.sh d)) o b := fun b z j xs hj => z j xs (ol_of_set hj).1
theorem Rep.set (R : Rep K ca B H0 H σ e o) {i : Nat} {d : D} {v : V} (h : Dv K ca H (okA B e o) d v) (hi : i < σ.length) : Rep K ca B H0 H (σ.set i (some v)) (e.set i (.sh d)) o where
  sh := fun j x hj => by
    by_cases hij : i = j
    · subst hij
      by_cases hl : i < e.length
      · rw [get_set_self hl] at hj
        have e1 : d = x := by injection hj with q; injection q
        subst e1
        exact ⟨v, get_set_self hi, Dv.mono (Stp.weak okA_set) _ _ h⟩
      · rw [List.getElem?_eq_none (by simpa using hl)] at hj
        cases hj
    · rw [List.getElem?_set_ne hij] at hj
      obtain ⟨w, e1, q⟩ := R.sh j x hj
      exact ⟨w, by rw [List.getElem?_set_ne hij]; exact e1, Dv.mono (Stp.weak okA_set) _ _ q⟩
  ol := fun j xs hj => by
    obtain ⟨hj, hij⟩ := ol_of_set hj
    obtain ⟨e1, vs, e2, q⟩ := R.ol j xs hj
    exact ⟨by rw [List.getElem?_set_ne hij]; exact e1, vs, e2, DvL.mono (Stp.weak okA_set) _ _ q⟩
  ne := fun j l xs ys hj hl => R.ne j l xs ys (ol_of_set hj).1 (ol_of_set hl).1
  fr := fun j xs hj => R.fr j xs (ol_of_set hj).1
  nb := fun j xs hj => R.nb j xs (ol_of_set hj).1
  sm := R.sm
  bd := R.bd
  ln := by simpa using R.ln
  lt := fun j xs hj => by
    obtain ⟨hj, hij⟩ := ln_of_set (by intro _ z; cases z) hj
    obtain ⟨q, vs, e1, e2, z⟩ := R.lt j xs hj
    exact ⟨q, vs, by rw [List.getElem?_set_ne hij]; exact e1, e2, DvL.mono (Stp.weak okA_set) _ _ z⟩
/-- .. whatever the slot -/
theorem Rep.put (R : Rep K ca B H0 H σ e o) {i : Nat} {d : D} {v : V} (h : Dv K ca H (okA B e o) d v) : Rep K ca B H0 H (σ.set i (some v)) (e.set i (.sh d)) o := by
  by_cases hl : i < e.length
  · exact R.set h (Nat.lt_of_lt_of_le hl R.ln)
  · have e1 : e.set i (.sh d) = e := List.set_eq_of_length_le (by omega)
    rw [e1]
    refine ⟨fun j x hj => ?_, fun j xs hj => ?_, R.ne, R.fr, R.nb, R.sm, R.bd, by simpa using R.ln, fun j xs hj => ?_⟩
    · have hjl : j < e.length := (List.getElem?_eq_some_iff.mp hj).1
      obtain ⟨w, e2, q⟩ := R.sh j x hj
      exact ⟨w, by rw [List.getElem?_set_ne (by omega)]; exact e2, q⟩
    · have hjl : j < e.length := (List.getElem?_eq_some_iff.mp hj).1
      obtain ⟨e2, q⟩ := R.ol j xs hj
      exact ⟨by rw [List.getElem?_set_ne (by omega)]; exact e2, q⟩
    · have hjl : j < e.length := (List.getElem?_eq_some_iff.mp hj).1
      obtain ⟨q, vs, e2, z⟩ := R.lt j xs hj
      exact ⟨q, vs, by rw [List.getElem?_set_ne (by omega)]; exact e2, z⟩
/-- a list of the frame's own becomes shared -/
theorem okA_freeze {i : Nat} {xs : List D} (R : Rep K ca B H0 H σ e o) (hi : e[i]? = some (Ent.ol xs)) : okA B (e.set i (.sh (.lst xs))) o (o i) :=
  ⟨R.nb i xs hi, fun j ys hj => by
    obtain ⟨hj, hij⟩ := ol_of_set hj
    exact R.ne j i ys xs hj hi (Ne.symm hij)⟩
theorem Rep.freeze (R : Rep K ca B H0 H σ e o) {i : Nat} {xs : List D} (hi : e[i]? = some (Ent.ol xs)) :
    Rep K ca B H0 H σ (e.set i (.sh (.lst xs))) o ∧ Dv K ca H (okA B (e.set i (.sh (.lst xs))) o) (.lst xs) (.ref (o i)) := by
  obtain ⟨e1, vs, e2, q⟩ := R.ol i xs hi
  have hd : Dv K ca H (okA B (e.set i (.sh (.lst xs))) o) (.lst xs) (.ref (o i)) := ⟨o i, vs, rfl, okA_freeze R hi, e2, DvL.mono (Stp.weak okA_set) _ _ q⟩
  refine ⟨⟨fun j x hj => ?_, fun j ys hj => ?_, fun j l ys zs hj hl => R.ne j l ys zs (ol_of_set hj).1 (ol_of_set hl).1, fun j ys hj => R.fr j ys (ol_of_set hj).1, fun j ys hj => R.nb j ys (ol_of_set hj).1, R.sm, R.bd, by simpa using R.ln, fun j ys hj => ?_⟩, hd⟩
  · by_cases hij : i = j
    · subst hij
      by_cases hl : i < e.length
      · rw [get_set_self hl] at hj
        have e3 : D.lst xs = x := by injection hj with q; injection q
        subst e3
        exact ⟨_, e1, hd⟩
      · rw [List.getElem?_eq_none (by simpa using hl)] at hj
        cases hj
    · rw [List.getElem?_set_ne hij] at hj
      obtain ⟨w, e3, z⟩ := R.sh j x hj
      exact ⟨w, e3, Dv.mono (Stp.weak okA_set) _ _ z⟩
  · obtain ⟨hj, hij⟩ := ol_of_set hj
    obtain ⟨e3, ws, e4, z⟩ := R.ol j ys hj
    exact ⟨e3, ws, e4, DvL.mono (Stp.weak okA_set) _ _ z⟩
  · obtain ⟨hj, hij⟩ := ln_of_set (by intro _ z; cases z) hj
    obtain ⟨p, ws, e3, e4, z⟩ := R.lt j ys hj
    exact ⟨p, ws, e3, e4, DvL.mono (Stp.weak okA_set) _ _ z⟩
/-- a new list becomes a slot's own -/
theorem ol_of_setO {i m : Nat} {ys zs : List D} (hm : (e.set i (Ent.ol ys))[m]? = some (Ent.ol zs)) : (i = m ∧ ys = zs) ∨ (e[m]? = some (Ent.ol zs) ∧ i ≠ m) := by
  by_cases hij : i = m
  · subst hij
    by_cases hl : i < e.length
    · rw [get_set_self hl] at hm
      injection hm with q
      injection q with q
      exact .inl ⟨rfl, q⟩
    · rw [List.getElem?_eq_none (by simpa using hl)] at hm
      cases hm
  · rw [List.getElem?_set_ne hij] at hm
    exact .inr ⟨hm, hij⟩
def setO (o : Nat → Addr) (i : Nat) (p : Addr) : Nat → Addr := fun j => if j = i then p else o j
theorem setO_self {i : Nat} {p : Addr} : setO o i p i = p := if_pos rfl
theorem setO_ne {i j : Nat} {p : Addr} (h : i ≠ j) : setO o i p j = o j := if_neg (Ne.symm h)
theorem okA_own {i : Nat} {xs : List D} {p : Addr} : ∀ b, okA (fun b => B b ∨ b = p) e o b → okA B (e.set i (.ol xs)) (setO o i p) b := fun b z => ⟨fun q => z.1 (.inl q), fun j ys hj => by
  rcases ol_of_setO hj with ⟨e1, _⟩ | ⟨hj, hij⟩
  · rw [← e1, setO_self]
    exact fun q => z.1 (.inr q.symm)
  · rw [setO_ne hij]
    exact z.2 j ys hj⟩
theorem okN_own {i : Nat} {xs : List D} {p b : Addr} (hb : okN e o b) (hp : b ≠ p) : okN (e.set i (.ol xs)) (setO o i p) b := fun j ys hj => by
  rcases ol_of_setO hj with ⟨e1, _⟩ | ⟨hj, hij⟩
  · rw [← e1, setO_self]
    exact Ne.symm hp
  · rw [setO_ne hij]
    exact hb j ys hj
theorem Rep.own {p : Addr} (R : Rep K ca (fun b => B b ∨ b = p) H0 H σ e o) {i : Nat} {xs : List D} {vs : List V} (hp : H p = some (.lst vs)) (h0 : H0 p = none) (hb : ¬ B p) (hn : ∀ (j : Nat) (ys : List D), e[j]? = some (Ent.ol ys) → o j ≠ p)
    (h : DvL K ca H (okA (fun b => B b ∨ b = p) e o) xs vs) (hi : i < σ.length) : Rep K ca B H0 H (σ.set i (some (.ref p))) (e.set i (.ol xs)) (setO o i p) where
  sh := fun j x hj => by
    have hij : i ≠ j := fun z => by
      subst z
      by_cases hl : i < e.length
      · rw [get_set_self hl] at hj
        cases hj
      · rw [List.getElem?_eq_none (by simpa using hl)] at hj
        cases hj
    rw [List.getElem?_set_ne hij] at hj
    obtain ⟨w, e1, q⟩ := R.sh j x hj
    exact ⟨w, by rw [List.getElem?_set_ne hij]; exact e1, Dv.mono (Stp.weak okA_own) _ _ q⟩
  ol := fun j ys hj => by
    rcases ol_of_setO hj with ⟨e1, e2⟩ | ⟨hj, hij⟩
    · subst e1 e2
      exact ⟨by rw [setO_self]; exact get_set_self hi, vs, by rw [setO_self]; exact hp, DvL.mono (Stp.weak okA_own) _ _ h⟩
    · obtain ⟨e1, ws, e2, q⟩ := R.ol j ys hj
      exact ⟨by rw [List.getElem?_set_ne hij, setO_ne hij]; exact e1, ws, by rw [setO_ne hij]; exact e2, DvL.mono (Stp.weak okA_own) _ _ q⟩
  ne := fun j l ys zs hj hl hjl => by
    rcases ol_of_setO hj with ⟨e1, _⟩ | ⟨hj, hij⟩
    · rcases ol_of_setO hl with ⟨e2, _⟩ | ⟨hl, hil⟩
      · exact absurd (e1.symm.trans e2) hjl
      · rw [← e1, setO_self, setO_ne hil]
        exact Ne.symm (hn l zs hl)
    · rcases ol_of_setO hl with ⟨e2, _⟩ | ⟨hl, hil⟩
      · rw [← e2, setO_self, setO_ne hij]
        exact hn j ys hj
      · rw [setO_ne hij, setO_ne hil]
        exact R.ne j l ys zs hj hl hjl
  fr := fun j ys hj => by
    rcases ol_of_setO hj with ⟨e1, _⟩ | ⟨hj, hij⟩
    · rw [← e1, setO_self]
      exact h0
    · rw [setO_ne hij]
      exact R.fr j ys hj
  nb := fun j ys hj => by
    rcases ol_of_setO hj with ⟨e1, _⟩ | ⟨hj, hij⟩
    · rw [← e1, setO_self]
      exact hb
    · rw [setO_ne hij]
      exact fun z => R.nb j ys hj (.inl z)
  sm := R.sm
  bd := fun b z => R.bd b (.inl z)
  ln := by simpa using R.ln
  lt := fun j ys hj => by
    obtain ⟨hj, hij⟩ := ln_of_set (by intro _ z; cases z) hj
    obtain ⟨q, ws, e1, e2, z⟩ := R.lt j ys hj
    exact ⟨q, ws, by rw [List.getElem?_set_ne hij]; exact e1, e2, DvL.mono (Stp.weak okA_own) _ _ z⟩
/-- a list of the frame's own is changed -/
theorem okA_chg {i : Nat} {xs ys : List D} (hi : e[i]? = some (Ent.ol xs)) : ∀ b, okA B e o b → okA B (e.set i (.ol ys)) o b := fun b z => ⟨z.1, fun j zs hj => by
  rcases ol_of_setO hj with ⟨e1, _⟩ | ⟨hj, _⟩
  · rw [← e1]
    exact z.2 i xs hi
  · exact z.2 j zs hj⟩
theorem Stp.chgN {i : Nat} {xs ys : List D} {u : HO} (hi : e[i]? = some (Ent.ol xs)) : Stp (okN e o) H (okN (e.set i (.ol ys)) o) (upd H (o i) u) := fun b w hb hw =>
  ⟨fun j zs hj => by
    rcases ol_of_setO hj with ⟨e1, _⟩ | ⟨hj, _⟩
    · rw [← e1]
      exact hb i xs hi
    · exact hb j zs hj, by rw [upd_ne (Ne.symm (hb i xs hi))]; exact hw⟩
theorem Stp.chg {i : Nat} {xs ys : List D} {u : HO} (hi : e[i]? = some (Ent.ol xs)) : Stp (okA B e o) H (okA B (e.set i (.ol ys)) o) (upd H (o i) u) := fun b w hb hw =>
  ⟨okA_chg hi b hb, by rw [upd_ne (Ne.symm (hb.2 i xs hi))]; exact hw⟩
theorem Rep.chg (R : Rep K ca B H0 H σ e o) {i : Nat} {xs ys : List D} {vs : List V} (hi : e[i]? = some (Ent.ol xs)) (h : DvL K ca H (okA B e o) ys vs) :
    Rep K ca B H0 (upd H (o i) (.lst vs)) σ (e.set i (.ol ys)) o where
  sh := fun j x hj => by
    have hij : i ≠ j := fun z => by
      subst z
      have hl : i < e.length := (List.getElem?_eq_some_iff.mp hi).1
      rw [get_set_self hl] at hj
      cases hj
    rw [List.getElem?_set_ne hij] at hj
    obtain ⟨w, e1, q⟩ := R.sh j x hj
    exact ⟨w, e1, Dv.mono (Stp.chg hi) _ _ q⟩
  ol := fun j zs hj => by
    rcases ol_of_setO hj with ⟨e1, e2⟩ | ⟨hj, hij⟩
    · subst e1 e2
      exact ⟨(R.ol i xs hi).1, vs, upd_same, DvL.mono (Stp.chg hi) _ _ h⟩
    · obtain ⟨e1, ws, e2, q⟩ := R.ol j zs hj
      exact ⟨e1, ws, by rw [upd_ne (R.ne j i zs xs hj hi (Ne.symm hij))]; exact e2, DvL.mono (Stp.chg hi) _ _ q⟩
  ne := fun j l ys zs hj hl hjl => by
    rcases ol_of_setO hj with ⟨e1, _⟩ | ⟨hj, hij⟩
    · rcases ol_of_setO hl with ⟨e2, _⟩ | ⟨hl, hil⟩
      · exact absurd (e1.symm.trans e2) hjl
      · rw [← e1]
        exact R.ne i l xs zs hi hl hil
    · rcases ol_of_setO hl with ⟨e2, _⟩ | ⟨hl, hil⟩
      · rw [← e2]
        exact R.ne j i ys xs hj hi (Ne.symm hij)
      · exact R.ne j l ys zs hj hl hjl
  fr := fun j zs hj => by
    rcases ol_of_setO hj with ⟨e1, _⟩ | ⟨hj, hij⟩
    · rw [← e1]
      exact R.fr i xs hi
    · exact R.fr j zs hj
  nb := fun j zs hj => by
    rcases ol_of_setO hj with ⟨e1, _⟩ | ⟨hj, hij⟩
    · rw [← e1]
      exact R.nb i xs hi
    · exact R.nb j zs hj
  sm := fun b u hb => by
    have hne : b ≠ o i := ne_of_none hb (R.fr i xs hi)
    rw [upd_ne hne]
    exact R.sm b u hb
  bd := fun b hb => by
    by_cases hbi : b = o i
    · rw [hbi, upd_same]
      exact fun z => by cases z
    · rw [upd_ne hbi]
      exact R.bd b hb
  ln := by simpa using R.ln
  lt := fun j zs hj => by
    obtain ⟨hj, hij⟩ := ln_of_set (by intro _ z; cases z) hj
    obtain ⟨q, ws, e1, e2, z⟩ := R.lt j zs hj
    exact ⟨q, ws, e1, e2, DvL.mono (Stp.chg hi) _ _ z⟩
end
end DL
set_option Elab.async false
set_option linter.all false
set_option maxRecDepth 100000
set_option maxHeartbeats 4000000
/-! DB: the lifts; names, constants, operators, tests, displays, calls -/
namespace DL
open PySem PySem.Spec L2

theorem pe_imp {X : Cx} {e : Expr} {t t' : TE} (h : PE X e t) (w : ∀ σ H Q, t' σ H Q → t σ H Q) : PE X e t' := ⟨fun pins s σ H Q I q => h.run pins s σ H Q I (w σ H Q q)⟩
theorem pt_imp {X : Cx} {e : Expr} {t t' : TT} (h : PT X e t) (w : ∀ σ H Q, t' σ H Q → t σ H Q) : PT X e t' := ⟨fun pins s σ H Q I q => h.run pins s σ H Q I (w σ H Q q)⟩
theorem pw_imp {X : Cx} {e : Expr} {t t' : TT} (h : PW X e t) (w : ∀ σ H Q, t' σ H Q → t σ H Q) : PW X e t' := ⟨fun wh pins s σ H Q I q => h.run wh pins s σ H Q I (w σ H Q q)⟩
theorem pa_imp {X : Cx} {e : List Expr} {t t' : TA} (h : PA X e t) (w : ∀ σ H Q, t' σ H Q → t σ H Q) : PA X e t' := ⟨fun pos pins s σ H Q I q => h.run pos pins s σ H Q I (w σ H Q q)⟩
theorem ps_imp {X : Cx} {e : Stmt} {t t' : TS} (h : PS X e t) (w : ∀ D σ H, t' D σ H → t D σ H) : PS X e t' := ⟨fun pins s σ H D I q => h.run pins s σ H D I (w D σ H q)⟩
theorem pss_imp {X : Cx} {e : List Stmt} {t t' : TS} (h : PSs X e t) (w : ∀ D σ H, t' D σ H → t D σ H) : PSs X e t' := ⟨fun pins s σ H D I q => h.run pins s σ H D I (w D σ H q)⟩
theorem pg_imp {X : Cx} {e : Expr} {t t' : TG} (h : PG X e t) (w : ∀ v σ H Q, t' v σ H Q → t v σ H Q) : PG X e t' := ⟨fun pins s σ H v u Q I r q => h.run pins s σ H v u Q I r (w v σ H Q q)⟩
theorem pgs_imp {X : Cx} {e : List Expr} {t t' : TGs} (h : PGs X e t) (w : ∀ v σ H Q, t' v σ H Q → t v σ H Q) : PGs X e t' := ⟨fun pins s σ H v u Q I r q => h.run pins s σ H v u Q I r (w v σ H Q q)⟩
theorem pi_imp {X : Cx} {tg e : Expr} {t t' : TI} (h : PI X tg e t) (w : ∀ σ H Q, t' σ H Q → t σ H Q) : PI X tg e t' := ⟨fun pins s σ H Q I q => h.run pins s σ H Q I (w σ H Q q)⟩

/-! ### the lifts -/
section
variable (K : PySem.W.Frag) (ca : Str → Addr) (H0 : Hp) (B : Addr → Prop)
def LE (t : TD) : TE := fun σ H Q => ∃ e o Q', Rep K ca B H0 H σ e o ∧ t e Q' ∧ ∀ d e', Q' d e' → ∀ v H' o', Rep K ca B H0 H' σ e' o' → Stp (okN e o) H (okN e' o') H' → Dv K ca H' (okA B e' o') d v → Q v H'
def LO (t : TDO) : TE := fun σ H Q => ∃ e o Q', Rep K ca B H0 H σ e o ∧ t e Q' ∧ ∀ a e', Q' a e' → ∀ v H' o', Rep K ca B H0 H' σ e' o' → Stp (okN e o) H (okN e' o') H' → OpV K ca H' (okA B e' o') σ a v → Q v H'
def LT (t : TDT) : TT := fun σ H Q => ∃ e o Q', Rep K ca B H0 H σ e o ∧ t e Q' ∧ ∀ b e', Q' b e' → ∀ H' o', Rep K ca B H0 H' σ e' o' → Stp (okN e o) H (okN e' o') H' → Q b H'
def LA (t : TDF) : TA := fun σ H Q => ∃ e o Q', Rep K ca B H0 H σ e o ∧ t e Q' ∧ ∀ ds e', Q' ds e' → ∀ vs H' o', Rep K ca B H0 H' σ e' o' → Stp (okN e o) H (okN e' o') H' → DvL K ca H' (okA B e' o') ds vs → Q vs H'
def OpVL (H : Hp) (k : Addr → Prop) (σ : L2.St) : List Opd → List V → Prop
  | [], vs => vs = []
  | a :: as, vs => ∃ v r, vs = v :: r ∧ OpV K ca H k σ a v ∧ OpVL H k σ as r
def LAO (t : TDA) : TA := fun σ H Q => ∃ e o Q', Rep K ca B H0 H σ e o ∧ t e Q' ∧ ∀ as e', Q' as e' → ∀ vs H' o', Rep K ca B H0 H' σ e' o' → Stp (okN e o) H (okN e' o') H' → OpVL K ca H' (okA B e' o') σ as vs → Q vs H'
/-- a new list that nothing else names -/
def LF (t : TDF) : TE := fun σ H Q => ∃ e o Q', Rep K ca B H0 H σ e o ∧ t e Q' ∧ ∀ xs e', Q' xs e' → ∀ p vs H' o', Rep K ca (fun b => B b ∨ b = p) H0 H' σ e' o' → Stp (okN e o) H (okN e' o') H' →
  H' p = some (.lst vs) → (∀ b u, okN e o b → H b = some u → b ≠ p) → H0 p = none → ¬ B p → (∀ (j : Nat) (ys : List D), e'[j]? = some (Ent.ol ys) → o' j ≠ p) → DvL K ca H' (okA (fun b => B b ∨ b = p) e' o') xs vs → Q (.ref p) H'
/-- what lies behind a statement that began with H at the addresses of k -/
def EndsOk (k : Addr → Prop) (H : Hp) (D' : DEnds) (E : Ends) : Prop :=
  (∀ e', D'.nx e' → ∀ σ' H' o', Rep K ca B H0 H' σ' e' o' → Stp k H (okN e' o') H' → E.nx σ' H') ∧ (∀ d, D'.rt d → ∀ v H', Same H0 H' → Dv K ca H' (fun b => ¬ B b) d v → E.rt v H') ∧
  (∀ e', D'.bk e' → ∀ σ' H' o', Rep K ca B H0 H' σ' e' o' → Stp k H (okN e' o') H' → E.bk σ' H') ∧ (∀ e', D'.ct e' → ∀ σ' H' o', Rep K ca B H0 H' σ' e' o' → Stp k H (okN e' o') H' → E.ct σ' H')
def LS (t : TDS) : TS := fun E σ H => ∃ e o D', Rep K ca B H0 H σ e o ∧ t D' e ∧ EndsOk K ca H0 B (okN e o) H D' E
/-- a target: it stores in the slots ss alone -/
abbrev TDG := D → DEnv → (DEnv → Prop) → Prop
def LG (ss : List Nat) (t : TDG) : TG := fun v σ H Q => ∃ e o d Q', Rep K ca B H0 H σ e o ∧ Dv K ca H (okA B e o) d v ∧ t d e Q' ∧
  ∀ e', Q' e' → ∀ σ' H' o', Rep K ca B H0 H' σ' e' o' → Stp (okN e o) H (okN e' o') H' → σ'.length = σ.length → (∀ j, j ∉ ss → σ'[j]? = σ[j]?) → Q σ' H'
abbrev TDGs := List D → DEnv → (DEnv → Prop) → Prop
def LGs (ss : List Nat) (t : TDGs) : TGs := fun vs σ H Q => ∃ e o ds Q', Rep K ca B H0 H σ e o ∧ DvL K ca H (okA B e o) ds vs ∧ t ds e Q' ∧
  ∀ e', Q' e' → ∀ σ' H' o', Rep K ca B H0 H' σ' e' o' → Stp (okN e o) H (okN e' o') H' → σ'.length = σ.length → (∀ j, j ∉ ss → σ'[j]? = σ[j]?) → Q σ' H'
end
structure DE (X : Cx) (ca : Str → Addr) (H0 : Hp) (x : Expr) (t : TD) : Prop where
  pe : ∀ B, PE X x (LE X.K ca H0 B t)
structure DO (X : Cx) (ca : Str → Addr) (H0 : Hp) (x : Expr) (t : TDO) : Prop where
  pe : ∀ B, PE X x (LO X.K ca H0 B t)
structure DF (X : Cx) (ca : Str → Addr) (H0 : Hp) (x : Expr) (t : TDF) : Prop where
  pe : ∀ B, PE X x (LF X.K ca H0 B t)
structure DT (X : Cx) (ca : Str → Addr) (H0 : Hp) (x : Expr) (t : TDT) : Prop where
  pt : ∀ B, PT X x (LT X.K ca H0 B t)
structure DW (X : Cx) (ca : Str → Addr) (H0 : Hp) (x : Expr) (t : TDT) : Prop where
  pw : ∀ B, PW X x (LT X.K ca H0 B t)
structure DA (X : Cx) (ca : Str → Addr) (H0 : Hp) (xs : List Expr) (t : TDF) : Prop where
  pa : ∀ B, PA X xs (LA X.K ca H0 B t)
structure DAO (X : Cx) (ca : Str → Addr) (H0 : Hp) (xs : List Expr) (t : TDA) : Prop where
  pa : ∀ B, PA X xs (LAO X.K ca H0 B t)
structure DSt (X : Cx) (ca : Str → Addr) (H0 : Hp) (x : Stmt) (t : TDS) : Prop where
  ps : ∀ B, PS X x (LS X.K ca H0 B t)
structure DSs (X : Cx) (ca : Str → Addr) (H0 : Hp) (x : List Stmt) (t : TDS) : Prop where
  ps : ∀ B, PSs X x (LS X.K ca H0 B t)
structure DG (X : Cx) (ca : Str → Addr) (H0 : Hp) (x : Expr) (ss : List Nat) (t : TDG) : Prop where
  pg : ∀ B, PG X x (LG X.K ca H0 B ss t)
structure DGs (X : Cx) (ca : Str → Addr) (H0 : Hp) (x : List Expr) (ss : List Nat) (t : TDGs) : Prop where
  pg : ∀ B, PGs X x (LGs X.K ca H0 B ss t)
section
variable {K : PySem.W.Frag} {ca : Str → Addr} {B : Addr → Prop} {H0 H H' : Hp} {σ : L2.St} {e e' : DEnv} {o o' : Nat → Addr} {k k' : Addr → Prop}
theorem OpV.mono (s : Stp k H k' H') {a : Opd} {v : V} (h : OpV K ca H k σ a v) : OpV K ca H' k' σ a v := by
  cases a with
  | val d => exact Dv.mono s d v h
  | slot i => exact h
theorem OpVL.mono (s : Stp k H k' H') : ∀ {as : List Opd} {vs : List V}, OpVL K ca H k σ as vs → OpVL K ca H' k' σ as vs
  | [], vs, h => h
  | a :: as, vs, h => by
    obtain ⟨v, r, e, h1, h2⟩ := h
    exact ⟨v, r, e, h1.mono s, OpVL.mono s h2⟩
def lookL (e : DEnv) : List Opd → Option (List D)
  | [] => some []
  | a :: as => match look e a, lookL e as with
    | some d, some ds => some (d :: ds)
    | _, _ => none
/-- weak values in a row -/
def DvWL (K : PySem.W.Frag) (ca : Str → Addr) (H : Hp) (k : Addr → Prop) : List D → List V → Prop
  | [], vs => vs = []
  | d :: ds, vs => ∃ v r, vs = v :: r ∧ DvW K ca H k d v ∧ DvWL K ca H k ds r
theorem Rep.lookL (R : Rep K ca B H0 H σ e o) : ∀ {as : List Opd} {ds : List D} {vs : List V}, OpVL K ca H (okA B e o) σ as vs → DL.lookL e as = some ds → DvWL K ca H (okA B e o) ds vs
  | [], ds, vs, h, hl => by
    have e1 : ds = [] := (Option.some.inj hl).symm
    subst e1
    exact h
  | a :: as, ds, vs, h, hl => by
    obtain ⟨v, r, e1, h1, h2⟩ := h
    have hl' : (match DL.look e a, DL.lookL e as with
      | some d, some ds => some (d :: ds)
      | _, _ => none) = some ds := hl
    cases q1 : DL.look e a with
    | none => rw [q1] at hl'; cases hl'
    | some d =>
      cases q2 : DL.lookL e as with
      | none => rw [q1, q2] at hl'; cases hl'
      | some es =>
        rw [q1, q2] at hl'
        have e2 : d :: es = ds := Option.some.inj hl'
        subst e2
        exact ⟨v, r, e1, R.look h1 q1, R.lookL h2 q2⟩
end

/-! ### names, constants -/
def dC (d : D) : TD := fun e Q => Q d e
def dVar (i : Nat) : TD := fun e Q => match e[i]? with
  | some (.sh d) => Q d e
  | some (.ol xs) => Q (.lst xs) (e.set i (.sh (.lst xs)))
  | _ => False
def oSlot (i : Nat) : TDO := fun e Q => match e[i]? with
  | some (.sh d) => Q (.slot i) e
  | some (.ol xs) => Q (.slot i) e
  | some (.ln xs) => Q (.slot i) e
  | _ => False
def oVal (t : TD) : TDO := fun e Q => t e fun d e' => Q (.val d) e'
section
variable {X : Cx} {ca : Str → Addr} {H0 : Hp} {x y z : Expr} {pos : Pos}
theorem de_c {d : D} {v : V} (h : PE X x (tC v)) (hd : ∀ H k, Dv X.K ca H k d v) : DE X ca H0 x (dC d) := ⟨fun B => pe_imp h fun σ H Q ⟨e, o, Q', R, q, imp⟩ => imp d e q v H o R Stp.refl (hd H _)⟩
theorem de_int {i j} : DE X ca H0 (.Constant (.int i) j pos) (dC (.int i)) := de_c pe_int fun _ _ => rfl
theorem de_bl {b j} : DE X ca H0 (.Constant (.bool b) j pos) (dC (.bl b)) := de_c pe_bl fun _ _ => rfl
theorem de_non {j} : DE X ca H0 (.Constant .none j pos) (dC .non) := de_c pe_non fun _ _ => rfl
theorem de_str {z j} : DE X ca H0 (.Constant (.str z) j pos) (dC (.str z)) := de_c pe_str fun _ _ => rfl
theorem de_var {i : Nat} (h : PE X x (tVar i)) : DE X ca H0 x (dVar i) := ⟨fun B => pe_imp h fun σ H Q ⟨e, o, Q', R, q, imp⟩ => by
  unfold dVar at q
  cases he : e[i]? with
  | none => rw [he] at q; exact q.elim
  | some z =>
    rw [he] at q
    cases z with
    | sh d =>
      obtain ⟨v, e1, hv⟩ := R.sh i d he
      exact ⟨v, e1, imp d e q v H o R Stp.refl hv⟩
    | ol xs =>
      obtain ⟨R', hv⟩ := R.freeze he
      exact ⟨_, (R.ol i xs he).1, imp _ _ q _ H o R' (Stp.weak okN_set) hv⟩
    | ln xs => exact q.elim
    | un => exact q.elim⟩
theorem do_slot {i : Nat} (h : PE X x (tVar i)) : DO X ca H0 x (oSlot i) := ⟨fun B => pe_imp h fun σ H Q ⟨e, o, Q', R, q, imp⟩ => by
  unfold oSlot at q
  cases he : e[i]? with
  | none => rw [he] at q; exact q.elim
  | some z =>
    rw [he] at q
    cases z with
    | sh d =>
      obtain ⟨v, e1, hv⟩ := R.sh i d he
      exact ⟨v, e1, imp (.slot i) e q v H o R Stp.refl e1⟩
    | ol xs =>
      have e1 := (R.ol i xs he).1
      exact ⟨_, e1, imp (.slot i) e q _ H o R Stp.refl e1⟩
    | ln xs =>
      obtain ⟨p, vs, e1, _⟩ := R.lt i xs he
      exact ⟨_, e1, imp (.slot i) e q _ H o R Stp.refl e1⟩
    | un => exact q.elim⟩
theorem do_val {t : TD} (h : DE X ca H0 x t) : DO X ca H0 x (oVal t) := ⟨fun B => pe_imp (h.pe B) fun σ H Q ⟨e, o, Q', R, q, imp⟩ => ⟨e, o, fun d e' => Q' (.val d) e', R, q, fun d e' q' v H' o' R' st hv => imp (.val d) e' q' v H' o' R' st hv⟩⟩

/-! ### two operands, one operand -/
/-- an operation on values does what f says of data -/
def OpD (K : PySem.W.Frag) (ca : Str → Addr) (f : D → D → Option D) (r : R2) : Prop :=
  ∀ (H : Hp) (k : Addr → Prop) (a b c : D) (v u : V) (Q : VK), (∀ p, H p = none → k p) → DvW K ca H k a v → DvW K ca H k b u → f a b = some c → (∀ w H', Same H H' → Dv K ca H' k c w → Q w H') → r v u H Q
def UnD (K : PySem.W.Frag) (ca : Str → Addr) (f : D → Option D) (r : V → Hp → VK → Prop) : Prop :=
  ∀ (H : Hp) (k : Addr → Prop) (a c : D) (v : V) (Q : VK), (∀ p, H p = none → k p) → DvW K ca H k a v → f a = some c → (∀ w H', Same H H' → Dv K ca H' k c w → Q w H') → r v H Q
def dOp (f : D → D → Option D) (ta tb : TDO) : TD := fun e Q => ta e fun a e1 => tb e1 fun b e2 => ∃ x y z, look e2 a = some x ∧ look e2 b = some y ∧ f x y = some z ∧ Q z e2
def dUn (f : D → Option D) (ta : TDO) : TD := fun e Q => ta e fun a e1 => ∃ x z, look e1 a = some x ∧ f x = some z ∧ Q z e1
theorem le_op {B : Addr → Prop} {f : D → D → Option D} {r : R2} {ta tb : TDO} (hf : OpD X.K ca f r) : ∀ σ H Q, LE X.K ca H0 B (dOp f ta tb) σ H Q → tOp r (LO X.K ca H0 B ta) (LO X.K ca H0 B tb) σ H Q := fun σ H Q ⟨e, o, Q', R, q, imp⟩ =>
  ⟨e, o, _, R, q, fun a e1 q1 v H1 o1 R1 s1 h1 => ⟨e1, o1, _, R1, q1, fun b e2 ⟨x, y, z, hx, hy, hz, q2⟩ u H2 o2 R2 s2 h2 =>
    hf H2 (okA B e2 o2) x y z v u Q (fun p hp => R2.new hp) (R2.look (h1.mono s2.a) hx) (R2.look h2 hy) hz fun w H3 s3 hw => imp z e2 q2 w H3 o2 (R2.grow s3) ((s1.trans s2).trans (Stp.same s3)) hw⟩⟩
theorem de_op {op : Operator} {f : D → D → Option D} {r : R2} {ta tb : TDO} (ho : OpR X (binaryOp op) r) (hf : OpD X.K ca f r) (ha : DO X ca H0 x ta) (hb : DO X ca H0 y tb) : DE X ca H0 (.BinOp x op y pos) (dOp f ta tb) :=
  ⟨fun B => pe_imp (pe_op ho (ha.pe B) (hb.pe B)) (le_op hf)⟩
theorem le_un {B : Addr → Prop} {f : D → Option D} {r : V → Hp → VK → Prop} {ta : TDO} (hf : UnD X.K ca f r) : ∀ σ H Q, LE X.K ca H0 B (dUn f ta) σ H Q → tUn r (LO X.K ca H0 B ta) σ H Q := fun σ H Q ⟨e, o, Q', R, q, imp⟩ =>
  ⟨e, o, _, R, q, fun a e1 ⟨x, z, hx, hz, q2⟩ v H1 o1 R1 s1 h1 =>
    hf H1 (okA B e1 o1) x z v Q (fun p hp => R1.new hp) (R1.look h1 hx) hz fun w H3 s3 hw => imp z e1 q2 w H3 o1 (R1.grow s3) (s1.trans (Stp.same s3)) hw⟩
theorem de_un {op : UnaryOp} {f : D → Option D} {r : V → Hp → VK → Prop} {ta : TDO} (ho : UnR X (unaryOp op) r) (hf : UnD X.K ca f r) (ha : DO X ca H0 x ta) : DE X ca H0 (.UnaryOp op x pos) (dUn f ta) :=
  ⟨fun B => pe_imp (pe_un ho (ha.pe B)) (le_un hf)⟩
theorem de_cmp {op : CmpOp} {f : D → D → Option D} {r : R2} {ta tb : TDO} (ho : OpR X (compareOp op) r) (hf : OpD X.K ca f r) (ha : DO X ca H0 x ta) (hb : DO X ca H0 y tb) (hm : behindInMarks op y = false) : DE X ca H0 (.Compare x [op] [y] pos) (dOp f ta tb) :=
  ⟨fun B => pe_imp (pe_cmpR ho (ha.pe B) (hb.pe B) hm) (le_op hf)⟩
/-- a truth that a value is -/
def dTest (t : TD) : TDT := fun e Q => t e fun d e' => ∃ b, d = .bl b ∧ Q b e'
theorem lt_test {B : Addr → Prop} {t : TD} {t' : TE} (w : ∀ σ H Q, LE X.K ca H0 B t σ H Q → t' σ H Q) : ∀ σ H Q, LT X.K ca H0 B (dTest t) σ H Q → tTest t' σ H Q := fun σ H Q ⟨e, o, Q', R, q, imp⟩ =>
  w σ H _ ⟨e, o, _, R, q, fun d e' ⟨b, hd, q'⟩ v H' o' R' s' hv => by
    subst hd
    exact ⟨b, hv, imp b e' q' H' o' R' s'⟩⟩
theorem dt_cmp {op : CmpOp} {f : D → D → Option D} {r : R2} {ta tb : TDO} (ho : OpR X (compareOp op) r) (hf : OpD X.K ca f r) (ha : DO X ca H0 x ta) (hb : DO X ca H0 y tb) (hm : behindInMarks op y = false) : DT X ca H0 (.Compare x [op] [y] pos) (dTest (dOp f ta tb)) :=
  ⟨fun B => pt_imp (pt_cmpR ho (ha.pe B) (hb.pe B) hm) (lt_test (le_op hf))⟩
/-- a chain of two comparisons -/
def dChain (f g : D → D → Option D) (ta tb tc : TDO) : TD := fun e Q => ta e fun a e1 => tb e1 fun b e2 => ∃ x y c, look e2 a = some x ∧ look e2 b = some y ∧ f x y = some (.bl c) ∧
  if c = true then tc e2 fun z e3 => ∃ y' w u, look e3 b = some y' ∧ look e3 z = some w ∧ g y' w = some u ∧ Q u e3 else Q (.bl false) e2
theorem le_chain {B : Addr → Prop} {f g : D → D → Option D} {r r' : R2} {ta tb tc : TDO} (hf : OpD X.K ca f r) (hg : OpD X.K ca g r') :
    ∀ σ H Q, LE X.K ca H0 B (dChain f g ta tb tc) σ H Q → tChain r r' (LO X.K ca H0 B ta) (LO X.K ca H0 B tb) (LO X.K ca H0 B tc) σ H Q := fun σ H Q ⟨e, o, Q', R, q, imp⟩ =>
  ⟨e, o, _, R, q, fun a e1 q1 v H1 o1 R1 s1 h1 => ⟨e1, o1, _, R1, q1, fun b e2 ⟨x, y, c, hx, hy, hz, q2⟩ u H2 o2 R2 s2 h2 =>
    hf H2 (okA B e2 o2) x y (.bl c) v u _ (fun p hp => R2.new hp) (R2.look (h1.mono s2.a) hx) (R2.look h2 hy) hz fun w H3 s3 hw => by
      refine ⟨c, hw, ?_⟩
      cases c with
      | false => exact imp _ e2 q2 _ H3 o2 (R2.grow s3) ((s1.trans s2).trans (Stp.same s3)) rfl
      | true =>
        refine ⟨e2, o2, _, R2.grow s3, q2, fun z e3 ⟨y', w', u', hy', hw', hu', q3⟩ t H4 o4 R4 s4 h4 => ?_⟩
        exact hg H4 (okA B e3 o4) y' w' u' u t Q (fun p hp => R4.new hp) (R4.look ((h2.mono (Stp.same s3)).mono s4.a) hy') (R4.look h4 hw') hu' fun w2 H5 s5 hw2 => imp u' e3 q3 w2 H5 o4 (R4.grow s5) ((((s1.trans s2).trans (Stp.same s3)).trans s4).trans (Stp.same s5)) hw2⟩⟩
theorem de_chain {op op' : CmpOp} {f g : D → D → Option D} {r r' : R2} {ta tb tc : TDO} (ho : OpR X (compareOp op) r) (ho' : OpR X (compareOp op') r') (hf : OpD X.K ca f r) (hg : OpD X.K ca g r') (ha : DO X ca H0 x ta) (hb : DO X ca H0 y tb) (hc : DO X ca H0 z tc)
    (hm : lastMarks [op, op'] [y, z] = false := by with_unfolding_all rfl) : DE X ca H0 (.Compare x [op, op'] [y, z] pos) (dChain f g ta tb tc) :=
  ⟨fun B => pe_imp (pe_chain ho ho' (ha.pe B) (hb.pe B) (hc.pe B) hm) (le_chain hf hg)⟩
theorem dt_chain {op op' : CmpOp} {f g : D → D → Option D} {r r' : R2} {ta tb tc : TDO} (ho : OpR X (compareOp op) r) (ho' : OpR X (compareOp op') r') (hf : OpD X.K ca f r) (hg : OpD X.K ca g r') (ha : DO X ca H0 x ta) (hb : DO X ca H0 y tb) (hc : DO X ca H0 z tc)
    (hm : lastMarks [op, op'] [y, z] = false := by with_unfolding_all rfl) : DT X ca H0 (.Compare x [op, op'] [y, z] pos) (dTest (dChain f g ta tb tc)) :=
  ⟨fun B => pt_imp (pt_chain ho ho' (ha.pe B) (hb.pe B) (hc.pe B) hm) (lt_test (le_chain hf hg))⟩

/-! ### tests -/
def dAnd (t u : TDT) : TDT := fun e Q => t e fun b e' => if b = true then u e' Q else Q false e'
def dOr (t u : TDT) : TDT := fun e Q => t e fun b e' => if b = true then Q true e' else u e' Q
def dNot (t : TDT) : TDT := fun e Q => t e fun b e' => Q (!b) e'
theorem DW.dt {t : TDT} (h : DW X ca H0 x t) : DT X ca H0 x t := ⟨fun B => (h.pw B).pt⟩
theorem dt_val {t : TD} (h : DE X ca H0 x t) (he : ∀ whole, isTrue x X.env whole = (do let v ← whole; standAt x.pos; holding [v] (truthy v)) := by intro _; rfl) : DT X ca H0 x (dTest t) :=
  ⟨fun B => pt_imp (pt_val (h.pe B) he) fun σ H Q ⟨e, o, Q', R, q, imp⟩ => ⟨e, o, _, R, q, fun d e' ⟨b, hd, q'⟩ v H' o' R' s' hv => by
    subst hd
    exact ⟨b, hv, imp b e' q' H' o' R' s'⟩⟩⟩
theorem lt_and {K : PySem.W.Frag} {B : Addr → Prop} {t u : TDT} : ∀ σ H Q, LT K ca H0 B (dAnd t u) σ H Q → tAnd (LT K ca H0 B t) (LT K ca H0 B u) σ H Q := fun σ H Q ⟨e, o, Q', R, q, imp⟩ =>
  ⟨e, o, _, R, q, fun b e1 q1 H1 o1 R1 s1 => by
    cases b with
    | true => exact ⟨e1, o1, _, R1, q1, fun b e2 q2 H2 o2 R2 s2 => imp b e2 q2 H2 o2 R2 (s1.trans s2)⟩
    | false => exact imp false e1 q1 H1 o1 R1 s1⟩
theorem lt_or {K : PySem.W.Frag} {B : Addr → Prop} {t u : TDT} : ∀ σ H Q, LT K ca H0 B (dOr t u) σ H Q → tOr (LT K ca H0 B t) (LT K ca H0 B u) σ H Q := fun σ H Q ⟨e, o, Q', R, q, imp⟩ =>
  ⟨e, o, _, R, q, fun b e1 q1 H1 o1 R1 s1 => by
    cases b with
    | false => exact ⟨e1, o1, _, R1, q1, fun b e2 q2 H2 o2 R2 s2 => imp b e2 q2 H2 o2 R2 (s1.trans s2)⟩
    | true => exact imp true e1 q1 H1 o1 R1 s1⟩
theorem dw_and1 {t : TDT} (h : DT X ca H0 x t) : DW X ca H0 (.BoolOp .And [x] pos) t := ⟨fun B => pw_and1 (h.pt B)⟩
theorem dw_or1 {t : TDT} (h : DT X ca H0 x t) : DW X ca H0 (.BoolOp .Or [x] pos) t := ⟨fun B => pw_or1 (h.pt B)⟩
theorem dw_and {t u : TDT} {rest : List Expr} (h : DT X ca H0 x t) (h2 : DW X ca H0 (.BoolOp .And (y :: rest) pos) u) : DW X ca H0 (.BoolOp .And (x :: y :: rest) pos) (dAnd t u) := ⟨fun B => pw_imp (pw_and (h.pt B) (h2.pw B)) lt_and⟩
theorem dw_or {t u : TDT} {rest : List Expr} (h : DT X ca H0 x t) (h2 : DW X ca H0 (.BoolOp .Or (y :: rest) pos) u) : DW X ca H0 (.BoolOp .Or (x :: y :: rest) pos) (dOr t u) := ⟨fun B => pw_imp (pw_or (h.pt B) (h2.pw B)) lt_or⟩
theorem dt_not {t : TDT} (h : DT X ca H0 x t) : DT X ca H0 (.UnaryOp .Not x pos) (dNot t) := ⟨fun B => pt_imp (pt_not (h.pt B)) fun σ H Q ⟨e, o, Q', R, q, imp⟩ => ⟨e, o, _, R, q, fun b e1 q1 H1 o1 R1 s1 => imp (!b) e1 q1 H1 o1 R1 s1⟩⟩
/-! .. as values, of truths -/
def dAndV (t u : TD) : TD := fun e Q => t e fun d e' => ∃ b, d = .bl b ∧ if b = true then u e' Q else Q (.bl false) e'
def dOrV (t u : TD) : TD := fun e Q => t e fun d e' => ∃ b, d = .bl b ∧ if b = true then Q (.bl true) e' else u e' Q
def dNotV (t : TD) : TD := fun e Q => t e fun d e' => ∃ b, d = .bl b ∧ Q (.bl (!b)) e'
theorem de_one {op : BoolOp} {t : TD} (h : DE X ca H0 x t) : DE X ca H0 (.BoolOp op [x] pos) t := ⟨fun B => pe_one (h.pe B)⟩
theorem de_and {t u : TD} {rest : List Expr} (h : DE X ca H0 x t) (h2 : DE X ca H0 (.BoolOp .And (y :: rest) pos) u) : DE X ca H0 (.BoolOp .And (x :: y :: rest) pos) (dAndV t u) :=
  ⟨fun B => pe_imp (pe_and (h.pe B) (h2.pe B)) fun σ H Q ⟨e, o, Q', R, q, imp⟩ => ⟨e, o, _, R, q, fun d e1 ⟨b, hd, q1⟩ v H1 o1 R1 s1 hv => by
    subst hd
    refine ⟨b, hv, ?_⟩
    cases b with
    | true => exact ⟨e1, o1, _, R1, q1, fun d e2 q2 v H2 o2 R2 s2 hv => imp d e2 q2 v H2 o2 R2 (s1.trans s2) hv⟩
    | false => exact imp _ e1 q1 _ H1 o1 R1 s1 rfl⟩⟩
theorem de_or {t u : TD} {rest : List Expr} (h : DE X ca H0 x t) (h2 : DE X ca H0 (.BoolOp .Or (y :: rest) pos) u) : DE X ca H0 (.BoolOp .Or (x :: y :: rest) pos) (dOrV t u) :=
  ⟨fun B => pe_imp (pe_or (h.pe B) (h2.pe B)) fun σ H Q ⟨e, o, Q', R, q, imp⟩ => ⟨e, o, _, R, q, fun d e1 ⟨b, hd, q1⟩ v H1 o1 R1 s1 hv => by
    subst hd
    refine ⟨b, hv, ?_⟩
    cases b with
    | false => exact ⟨e1, o1, _, R1, q1, fun d e2 q2 v H2 o2 R2 s2 hv => imp d e2 q2 v H2 o2 R2 (s1.trans s2) hv⟩
    | true => exact imp _ e1 q1 _ H1 o1 R1 s1 rfl⟩⟩
theorem de_not {t : TD} (h : DE X ca H0 x t) : DE X ca H0 (.UnaryOp .Not x pos) (dNotV t) :=
  ⟨fun B => pe_imp (pe_not (h.pe B)) fun σ H Q ⟨e, o, Q', R, q, imp⟩ => ⟨e, o, _, R, q, fun d e1 ⟨b, hd, q1⟩ v H1 o1 R1 s1 hv => by
    subst hd
    exact ⟨b, hv, imp _ e1 q1 _ H1 o1 R1 s1 rfl⟩⟩⟩
def dIf (c : TDT) (t u : TD) : TD := fun e Q => c e fun b e' => if b = true then t e' Q else u e' Q
theorem de_if {c : TDT} {t u : TD} (hc : DT X ca H0 z c) (h : DE X ca H0 x t) (h2 : DE X ca H0 y u) : DE X ca H0 (.IfExp z x y pos) (dIf c t u) :=
  ⟨fun B => pe_imp (pe_ifExp (hc.pt B) (h.pe B) (h2.pe B)) fun σ H Q ⟨e, o, Q', R, q, imp⟩ => ⟨e, o, _, R, q, fun b e1 q1 H1 o1 R1 s1 => by
    cases b with
    | true => exact ⟨e1, o1, _, R1, q1, fun d e2 q2 v H2 o2 R2 s2 hv => imp d e2 q2 v H2 o2 R2 (s1.trans s2) hv⟩
    | false => exact ⟨e1, o1, _, R1, q1, fun d e2 q2 v H2 o2 R2 s2 hv => imp d e2 q2 v H2 o2 R2 (s1.trans s2) hv⟩⟩⟩

/-! ### arguments, displays -/
def aNil : TDF := fun e Q => Q [] e
def aCons (t : TD) (u : TDF) : TDF := fun e Q => t e fun d e1 => u e1 fun ds e2 => Q (d :: ds) e2
theorem da_nil : DA X ca H0 [] aNil := ⟨fun B => pa_imp pa_nil fun σ H Q ⟨e, o, Q', R, q, imp⟩ => imp [] e q [] H o R Stp.refl rfl⟩
theorem la_cons {K : PySem.W.Frag} {B : Addr → Prop} {t : TD} {u : TDF} : ∀ σ H Q, LA K ca H0 B (aCons t u) σ H Q → tCons (LE K ca H0 B t) (LA K ca H0 B u) σ H Q := fun σ H Q ⟨e, o, Q', R, q, imp⟩ =>
  ⟨e, o, _, R, q, fun d e1 q1 v H1 o1 R1 s1 h1 => ⟨e1, o1, _, R1, q1, fun ds e2 q2 vs H2 o2 R2 s2 h2 => imp (d :: ds) e2 q2 (v :: vs) H2 o2 R2 (s1.trans s2) (.cons (Dv.mono s2.a _ _ h1) h2)⟩⟩
theorem da_cons {t : TD} {u : TDF} {es : List Expr} (h : DE X ca H0 x t) (h2 : DA X ca H0 es u) (hs : starEach (x :: es) X.env = (false, eval x X.env) :: starEach es X.env := by rfl) : DA X ca H0 (x :: es) (aCons t u) := ⟨fun B => pa_imp (pa_cons (h.pe B) (h2.pa B) hs) la_cons⟩
def aoNil : TDA := fun e Q => Q [] e
def aoCons (t : TDO) (u : TDA) : TDA := fun e Q => t e fun d e1 => u e1 fun ds e2 => Q (d :: ds) e2
theorem dao_nil : DAO X ca H0 [] aoNil := ⟨fun B => pa_imp pa_nil fun σ H Q ⟨e, o, Q', R, q, imp⟩ => imp [] e q [] H o R Stp.refl rfl⟩
theorem dao_cons {t : TDO} {u : TDA} {es : List Expr} (h : DO X ca H0 x t) (h2 : DAO X ca H0 es u) (hs : starEach (x :: es) X.env = (false, eval x X.env) :: starEach es X.env := by rfl) : DAO X ca H0 (x :: es) (aoCons t u) :=
  ⟨fun B => pa_imp (pa_cons (h.pe B) (h2.pa B) hs) fun σ H Q ⟨e, o, Q', R, q, imp⟩ =>
    ⟨e, o, _, R, q, fun d e1 q1 v H1 o1 R1 s1 h1 => ⟨e1, o1, _, R1, q1, fun ds e2 q2 vs H2 o2 R2 s2 h2 => imp (d :: ds) e2 q2 (v :: vs) H2 o2 R2 (s1.trans s2) ⟨v, vs, rfl, h1.mono s2.a, h2⟩⟩⟩⟩
def dTup (t : TDF) : TD := fun e Q => t e fun ds e' => ds.length ≤ sizeLine ∧ Q (.tup ds) e'
theorem de_tup {t : TDF} {es : List Expr} {k : Nat} (h : DA X ca H0 es t) : DE X ca H0 (.Tuple es k pos) (dTup t) :=
  ⟨fun B => pe_imp (pe_tup (h.pa B)) fun σ H Q ⟨e, o, Q', R, q, imp⟩ => ⟨e, o, _, R, q, fun ds e1 ⟨hl, q1⟩ vs H1 o1 R1 s1 h1 =>
    ⟨by rw [← h1.length]; exact hl, fun p hp => imp _ e1 q1 _ _ o1 (R1.grow (same_new hp)) (s1.trans (Stp.same (same_new hp))) (Dv.newT (R1.new hp) upd_same (DvL.mono (Stp.same (same_new hp)) _ _ h1))⟩⟩⟩
/-- a new list, not yet named -/
def fLst (t : TDF) : TDF := fun e Q => t e fun ds e' => ds.length ≤ sizeLine ∧ Q ds e'
section
variable {K : PySem.W.Frag} {B : Addr → Prop} {H H' : Hp} {σ : L2.St} {e : DEnv} {o : Nat → Addr}
/-- a new address, shut out for a while -/
theorem Rep.shut (R : Rep K ca B H0 H σ e o) {p : Addr} {u : HO} (hp : H p = none) : Rep K ca (fun b => B b ∨ b = p) H0 (upd H p u) σ e o :=
  have s : Stp (okA B e o) H (okA (fun b => B b ∨ b = p) e o) (upd H p u) := fun b w hb hw => by
    have hne : b ≠ p := ne_of_none hw hp
    exact ⟨⟨fun z => z.elim hb.1 hne, hb.2⟩, by rw [upd_ne hne]; exact hw⟩
  { sh := fun i d hi => let ⟨v, e1, h⟩ := R.sh i d hi; ⟨v, e1, Dv.mono s _ _ h⟩
    ol := fun i xs hi => by
      obtain ⟨e1, vs, e2, h⟩ := R.ol i xs hi
      exact ⟨e1, vs, by rw [upd_ne (ne_of_none e2 hp)]; exact e2, DvL.mono s _ _ h⟩
    ne := R.ne
    fr := R.fr
    nb := fun i xs hi z => by
      rcases z with z | z
      · exact R.nb i xs hi z
      · obtain ⟨_, vs, e2, _⟩ := R.ol i xs hi
        rw [z, hp] at e2
        cases e2
    sm := R.sm.trans (same_new hp)
    bd := fun b hb z => by
      rcases hb with hb | hb
      · have h1 := R.bd b hb
        by_cases hbp : b = p
        · rw [hbp] at h1
          exact h1 hp
        · rw [upd_ne hbp] at z
          exact h1 z
      · rw [hb, upd_same] at z
        cases z
    ln := R.ln
    lt := fun i xs hi => let ⟨q, vs, e1, e2, h⟩ := R.lt i xs hi; ⟨q, vs, e1, e2, DvL.mono s _ _ h⟩ }
theorem Stp.shut {p : Addr} {u : HO} (hp : H p = none) : Stp (okA B e o) H (okA (fun b => B b ∨ b = p) e o) (upd H p u) := fun b w hb hw => by
  have hne : b ≠ p := ne_of_none hw hp
  exact ⟨⟨fun z => z.elim hb.1 hne, hb.2⟩, by rw [upd_ne hne]; exact hw⟩
theorem same_free {H H' : Hp} {k k' : Addr → Prop} (s : Stp k H k' H') (hk : ∀ b u, H b = some u → ¬ k b → H' b ≠ none) {p : Addr} (hp : H' p = none) : H p = none := by
  cases q : H p with
  | none => rfl
  | some u =>
    by_cases hkp : k p
    · rw [(s p u hkp q).2] at hp
      cases hp
    · exact absurd hp (hk p u q hkp)
theorem Rep.nOwn (R : Rep K ca B H0 H σ e o) {p : Addr} (hp : H p = none) : ∀ (j : Nat) (ys : List D), e[j]? = some (Ent.ol ys) → o j ≠ p := fun j ys hj z => by
  obtain ⟨_, vs, e2, _⟩ := R.ol j ys hj
  rw [z, hp] at e2
  cases e2
theorem Rep.fr0 (R : Rep K ca B H0 H σ e o) {p : Addr} (hp : H p = none) : H0 p = none := R.sm.free hp
theorem Rep.nB (R : Rep K ca B H0 H σ e o) {p : Addr} (hp : H p = none) : ¬ B p := fun z => R.bd p z hp
end
theorem df_lst {t : TDF} {es : List Expr} (h : DA X ca H0 es t) : DF X ca H0 (.List es pos) (fLst t) :=
  ⟨fun B => pe_imp (pe_lst (h.pa B)) fun σ H Q ⟨e, o, Q', R, q, imp⟩ => ⟨e, o, _, R, q, fun ds e1 ⟨hl, q1⟩ vs H1 o1 R1 s1 h1 =>
    ⟨by rw [← h1.length]; exact hl, fun p hp => imp _ e1 q1 p vs _ o1 (R1.shut hp) (s1.trans (Stp.same (same_new hp))) upd_same (fun b u hb hu => ne_of_none (s1 b u hb hu).2 hp) (R1.fr0 hp) (R1.nB hp) (R1.nOwn hp) (DvL.mono (Stp.shut hp) _ _ h1)⟩⟩⟩
/-- a new list as a value -/
def dNew (t : TDF) : TD := fun e Q => t e fun ds e' => Q (.lst ds) e'
theorem okA_out {B : Addr → Prop} {e : DEnv} {o : Nat → Addr} {p : Addr} : ∀ b, okA (fun b => B b ∨ b = p) e o b → okA B e o b := fun b z => ⟨fun q => z.1 (.inl q), z.2⟩
theorem de_new {t : TDF} (h : DF X ca H0 x t) : DE X ca H0 x (dNew t) :=
  ⟨fun B => pe_imp (h.pe B) fun σ H Q ⟨e, o, Q', R, q, imp⟩ => ⟨e, o, _, R, q, fun xs e1 q1 p vs H1 o1 R1 s1 hp hs h0 hb hn hl =>
    imp _ e1 q1 _ H1 o1 (R1.wide fun b z => .inl z) s1 ⟨p, vs, rfl, ⟨hb, hn⟩, hp, DvL.mono (Stp.weak okA_out) _ _ hl⟩⟩⟩

/-! ### calls of built-ins -/
def CallD (K : PySem.W.Frag) (ca : Str → Addr) (f : List D → Option D) (r : List V → Hp → VK → Prop) : Prop :=
  ∀ (H : Hp) (k : Addr → Prop) (ds : List D) (c : D) (vs : List V) (Q : VK), (∀ p, H p = none → k p) → DvWL K ca H k ds vs → f ds = some c → (∀ w H', Same H H' → Dv K ca H' k c w → Q w H') → r vs H Q
def dCB (f : List D → Option D) (t : TDA) : TD := fun e Q => t e fun as e' => ∃ ds c, lookL e' as = some ds ∧ f ds = some c ∧ Q c e'
theorem le_cb {B : Addr → Prop} {f : List D → Option D} {r : List V → Hp → VK → Prop} {t : TDA} (hf : CallD X.K ca f r) : ∀ σ H Q, LE X.K ca H0 B (dCB f t) σ H Q → tCB r (LAO X.K ca H0 B t) σ H Q := fun σ H Q ⟨e, o, Q', R, q, imp⟩ =>
  ⟨e, o, _, R, q, fun as e1 ⟨ds, c, hl, hc, q1⟩ vs H1 o1 R1 s1 h1 => hf H1 (okA B e1 o1) ds c vs Q (fun p hp => R1.new hp) (R1.lookL h1 hl) hc fun w H2 s2 hw => imp c e1 q1 w H2 o1 (R1.grow s2) (s1.trans (Stp.same s2)) hw⟩
/-- .. that hand back a new list -/
def CallF (K : PySem.W.Frag) (ca : Str → Addr) (f : List D → Option (List D)) (r : List V → Hp → VK → Prop) : Prop :=
  ∀ (H : Hp) (k : Addr → Prop) (ds c : List D) (vs : List V) (Q : VK), (∀ p, H p = none → k p) → DvWL K ca H k ds vs → f ds = some c → (∀ p ws, H p = none → DvL K ca H k c ws → Q (.ref p) (upd H p (.lst ws))) → r vs H Q
def fCB (f : List D → Option (List D)) (t : TDA) : TDF := fun e Q => t e fun as e' => ∃ ds c, lookL e' as = some ds ∧ f ds = some c ∧ Q c e'
theorem lf_cb {B : Addr → Prop} {f : List D → Option (List D)} {r : List V → Hp → VK → Prop} {t : TDA} (hf : CallF X.K ca f r) : ∀ σ H Q, LF X.K ca H0 B (fCB f t) σ H Q → tCB r (LAO X.K ca H0 B t) σ H Q := fun σ H Q ⟨e, o, Q', R, q, imp⟩ =>
  ⟨e, o, _, R, q, fun as e1 ⟨ds, c, hl, hc, q1⟩ vs H1 o1 R1 s1 h1 => hf H1 (okA B e1 o1) ds c vs Q (fun p hp => R1.new hp) (R1.lookL h1 hl) hc fun p ws hp hw =>
    imp _ e1 q1 p ws _ o1 (R1.shut hp) (s1.trans (Stp.same (same_new hp))) upd_same (fun b u hb hu => ne_of_none (s1 b u hb hu).2 hp) (R1.fr0 hp) (R1.nB hp) (R1.nOwn hp) (DvL.mono (Stp.shut hp) _ _ hw)⟩
section
variable {f : List D → Option D} {ff : List D → Option (List D)} {r : List V → Hp → VK → Prop} {t : TDA} {es : List Expr} {n : Str} {p : Pos} {id T : String}
theorem de_callB (hc : CallR X (.builtin id) r) (hf : CallD X.K ca f r) (hg : Gl X n) (hm : X.mg n = none) (hv : bootBuiltins n = some (.builtin id)) (ha : DAO X ca H0 (x :: es) t) (hn : n ≠ "__name__" := by decide) (hdb : (n == ("__debug__" : Str)) = false := by decide)
    (he : starEach (x :: es) X.env = (false, eval x X.env) :: starEach es X.env := by rfl) (hpl : (backTo pos (starEach es X.env)).any (·.1) = false := by rfl) : DE X ca H0 (.Call (.Name n p) (x :: es) [] pos) (dCB f t) :=
  ⟨fun B => pe_imp (pe_callB hc hg hm hv (ha.pa B) hn hdb he hpl) (le_cb hf)⟩
theorem de_callTy (hc : CallR X (.type T) r) (hf : CallD X.K ca f r) (hg : Gl X n) (hm : X.mg n = none) (hv : bootBuiltins n = some (.type T)) (ha : DAO X ca H0 (x :: es) t) (hn : n ≠ "__name__" := by decide) (hdb : (n == ("__debug__" : Str)) = false := by decide)
    (he : starEach (x :: es) X.env = (false, eval x X.env) :: starEach es X.env := by rfl) (hpl : (backTo pos (starEach es X.env)).any (·.1) = false := by rfl) : DE X ca H0 (.Call (.Name n p) (x :: es) [] pos) (dCB f t) :=
  ⟨fun B => pe_imp (pe_callTy hc hg hm hv (ha.pa B) hn hdb he hpl) (le_cb hf)⟩
theorem df_callB (hc : CallR X (.builtin id) r) (hf : CallF X.K ca ff r) (hg : Gl X n) (hm : X.mg n = none) (hv : bootBuiltins n = some (.builtin id)) (ha : DAO X ca H0 (x :: es) t) (hn : n ≠ "__name__" := by decide) (hdb : (n == ("__debug__" : Str)) = false := by decide)
    (he : starEach (x :: es) X.env = (false, eval x X.env) :: starEach es X.env := by rfl) (hpl : (backTo pos (starEach es X.env)).any (·.1) = false := by rfl) : DF X ca H0 (.Call (.Name n p) (x :: es) [] pos) (fCB ff t) :=
  ⟨fun B => pe_imp (pe_callB hc hg hm hv (ha.pa B) hn hdb he hpl) (lf_cb hf)⟩
theorem df_callTy (hc : CallR X (.type T) r) (hf : CallF X.K ca ff r) (hg : Gl X n) (hm : X.mg n = none) (hv : bootBuiltins n = some (.type T)) (ha : DAO X ca H0 (x :: es) t) (hn : n ≠ "__name__" := by decide) (hdb : (n == ("__debug__" : Str)) = false := by decide)
    (he : starEach (x :: es) X.env = (false, eval x X.env) :: starEach es X.env := by rfl) (hpl : (backTo pos (starEach es X.env)).any (·.1) = false := by rfl) : DF X ca H0 (.Call (.Name n p) (x :: es) [] pos) (fCB ff t) :=
  ⟨fun B => pe_imp (pe_callTy hc hg hm hv (ha.pa B) hn hdb he hpl) (lf_cb hf)⟩
end
end
end DL
set_option Elab.async false
set_option linter.all false
set_option maxRecDepth 100000
set_option maxHeartbeats 4000000
/-! DC: statements, targets, loops, comprehensions, defs -/
namespace DL
open PySem PySem.Spec L2

/-! ### targets -/
def gN (i : Nat) : TDG := fun d e Q => Q (e.set i (.sh d))
def gNilD : TDGs := fun ds e Q => ds = [] ∧ Q e
def gConsD (t : TDG) (u : TDGs) : TDGs := fun ds e Q => match ds with
  | [] => False
  | d :: r => t d e fun e' => u r e' Q
/-- a tuple or a list of n items, taken apart -/
def gTupD (n : Nat) (t : TDGs) : TDG := fun d e Q => match d with
  | .tup xs => xs.length = n ∧ t xs e Q
  | .lst xs => xs.length = n ∧ t xs e Q
  | .klst xs => xs.length = n ∧ t xs e Q
  | _ => False
section
variable {X : Cx} {ca : Str → Addr} {H0 : Hp} {x y z : Expr} {pos : Pos}
theorem dg_name {i : Nat} {n : Str} (hN : X.N.Nodup) (hi : X.N[i]? = some n) (hx : Loc X.env.scope n) (hf : X.fn n = true ∨ X.env.scope.names.lookup n = some .local := by first | exact .inl rfl | exact .inr rfl | assumption) : DG X ca H0 (.Name n pos) [i] (gN i) :=
  ⟨fun B => pg_imp (pg_name hN hi hx hf) fun v σ H Q ⟨e, o, d, Q', R, hd, q, imp⟩ => imp _ q _ H o (R.put hd) (Stp.weak okN_set) (by simp) fun j hj => by
    have hij : i ≠ j := fun z => hj (by simp [z])
    rw [List.getElem?_set_ne hij]⟩
theorem dgs_nil : DGs X ca H0 [] [] gNilD := ⟨fun B => pgs_imp pgs_nil fun vs σ H Q ⟨e, o, ds, Q', R, hd, q, imp⟩ => by
  obtain ⟨e1, q⟩ := q
  subst e1
  exact ⟨hd, imp e q σ H o R Stp.refl rfl fun _ _ => rfl⟩⟩
theorem dgs_cons {ss ss' : List Nat} {t : TDG} {u : TDGs} {es : List Expr} (h1 : DG X ca H0 x ss t) (h2 : DGs X ca H0 es ss' u) (hs : (assignEach (x :: es) X.env).map (·.2) = assign x X.env :: (assignEach es X.env).map (·.2) := by rfl) :
    DGs X ca H0 (x :: es) (ss ++ ss') (gConsD t u) := ⟨fun B => pgs_imp (pgs_cons (h1.pg B) (h2.pg B) hs) fun vs σ H Q ⟨e, o, ds, Q', R, hd, q, imp⟩ => by
  cases ds with
  | nil => exact q.elim
  | cons d r =>
    obtain ⟨v, vr, e1, ha, hb⟩ := hd
    exact ⟨v, vr, e1, e, o, d, _, R, ha, q, fun e1 q1 σ1 H1 o1 R1 s1 l1 k1 => ⟨e1, o1, r, Q', R1, DvL.mono s1.a _ _ hb, q1, fun e2 q2 σ2 H2 o2 R2 s2 l2 k2 => imp e2 q2 σ2 H2 o2 R2 (s1.trans s2) (l2.trans l1) fun j hj =>
      (k2 j fun z => hj (List.mem_append_right _ z)).trans (k1 j fun z => hj (List.mem_append_left _ z))⟩⟩⟩
theorem pg_or {e : Expr} {t u : TG} (h : PG X e t) (h' : PG X e u) : PG X e (fun v σ H Q => t v σ H Q ∨ u v σ H Q) := ⟨fun pins s σ H v w Q I r q => q.elim (h.run pins s σ H v w Q I r) (h'.run pins s σ H v w Q I r)⟩
theorem dg_tup {ss : List Nat} {es : List Expr} {k : Nat} {t : TDGs} {n : Nat} (hc : X.calm = true) (h : DGs X ca H0 es ss t) (hn : (assignEach es X.env).length = n := by rfl) (hst : (assignEach es X.env).findIdx? (·.1) = none := by rfl) :
    DG X ca H0 (.Tuple es k pos) ss (gTupD n t) := ⟨fun B => pg_imp (pg_or (pg_tup hc (h.pg B) hn hst) (pg_unl hc (h.pg B) hn hst)) fun v σ H Q ⟨e, o, d, Q', R, hd, q, imp⟩ => by
  cases d with
  | tup xs =>
    obtain ⟨hl, q⟩ := q
    obtain ⟨p, vs, e1, h1, h2⟩ := DvW.tup (.of hd)
    exact .inl ⟨p, vs, e1, h1, by rw [← h2.length]; exact hl, e, o, xs, Q', R, h2, q, imp⟩
  | lst xs =>
    obtain ⟨hl, q⟩ := q
    obtain ⟨p, vs, e1, h1, h2⟩ := DvW.ls (.of hd) (xs := xs) rfl
    exact .inr ⟨p, vs, e1, h1, by rw [← h2.length]; exact hl, e, o, xs, Q', R, h2, q, imp⟩
  | klst xs =>
    obtain ⟨hl, q⟩ := q
    obtain ⟨p, vs, e1, h1, h2⟩ := DvW.ls (.of hd) (xs := xs) rfl
    exact .inr ⟨p, vs, e1, h1, by rw [← h2.length]; exact hl, e, o, xs, Q', R, h2, q, imp⟩
  | _ => exact q.elim⟩
end

/-! ### statements -/
def dNext : TDS := fun D e => D.nx e
def dSeq (t u : TDS) : TDS := fun D e => t { D with nx := u D } e
def dBreak : TDS := fun D e => D.bk e
def dCont : TDS := fun D e => D.ct e
def dNever : TDS := fun _ _ => False
def dExpr (t : TD) : TDS := fun D e => t e fun _ e' => D.nx e'
def dRet (t : TD) : TDS := fun D e => t e fun d _ => D.rt d
def dRetN : TDS := fun D _ => D.rt .non
def dIfS (c : TDT) (t u : TDS) : TDS := fun D e => c e fun b e' => if b = true then t D e' else u D e'
def dAsg (t : TD) (g : TDG) : TDS := fun D e => t e fun d e' => g d e' D.nx
/-- a name takes a new list as its own -/
def dOwn (t : TDF) (i : Nat) : TDS := fun D e => t e fun xs e' => i < e'.length ∧ D.nx (e'.set i (.ol xs))
/-- W: what holds ahead of each turn, with a measure -/
def dWhile (c : TDT) (tb : TDS) : TDS := fun D e => ∃ W : Nat → DEnv → Prop, (∃ m, W m e) ∧ ∀ m e, W m e → c e fun b e1 =>
  if b = true then tb { D with nx := fun e' => ∃ m', m' < m ∧ W m' e', ct := fun e' => ∃ m', m' < m ∧ W m' e', bk := D.nx } e1 else D.nx e1
section
variable {K : PySem.W.Frag} {ca : Str → Addr} {H0 : Hp} {B : Addr → Prop} {k k' : Addr → Prop} {H H' : Hp} {D' : DEnds} {E : Ends}
theorem EndsOk.from (h : EndsOk K ca H0 B k H D' E) (s : Stp k H k' H') : EndsOk K ca H0 B k' H' D' E :=
  ⟨fun e' q σ' H2 o' R st => h.1 e' q σ' H2 o' R (s.trans st), h.2.1, fun e' q σ' H2 o' R st => h.2.2.1 e' q σ' H2 o' R (s.trans st), fun e' q σ' H2 o' R st => h.2.2.2 e' q σ' H2 o' R (s.trans st)⟩
end
section
variable {X : Cx} {ca : Str → Addr} {H0 : Hp} {x y z : Expr} {pos : Pos} {st : Stmt} {rest a b : List Stmt} {t u : TDS} {te : TD} {g : TDG} {ss : List Nat}
theorem dss_nil : DSs X ca H0 [] dNext := ⟨fun B => pss_imp pss_nil fun D σ H ⟨e, o, D', R, q, en⟩ => en.1 e q σ H o R Stp.refl⟩
theorem dss_cons (h1 : DSt X ca H0 st t) (h2 : DSs X ca H0 rest u) : DSs X ca H0 (st :: rest) (dSeq t u) := ⟨fun B => pss_imp (pss_cons (h1.ps B) (h2.ps B)) fun D σ H ⟨e, o, D', R, q, en⟩ =>
  ⟨e, o, { D' with nx := u D' }, R, q, fun e1 q1 σ1 H1 o1 R1 s1 => ⟨e1, o1, D', R1, q1, en.from s1⟩, en.2.1, en.2.2.1, en.2.2.2⟩⟩
theorem dss_one (h1 : DSt X ca H0 st t) : DSs X ca H0 [st] t := ⟨fun B => pss_one (h1.ps B)⟩
theorem ds_pass : DSt X ca H0 (.Pass pos) dNext := ⟨fun B => ps_imp ps_pass fun D σ H ⟨e, o, D', R, q, en⟩ => en.1 e q σ H o R Stp.refl⟩
theorem ds_break : DSt X ca H0 (.Break pos) dBreak := ⟨fun B => ps_imp ps_break fun D σ H ⟨e, o, D', R, q, en⟩ => en.2.2.1 e q σ H o R Stp.refl⟩
theorem ds_continue : DSt X ca H0 (.Continue pos) dCont := ⟨fun B => ps_imp ps_continue fun D σ H ⟨e, o, D', R, q, en⟩ => en.2.2.2 e q σ H o R Stp.refl⟩
theorem ds_never : DSt X ca H0 st dNever := ⟨fun B => ps_imp ps_never fun D σ H ⟨e, o, D', R, q, en⟩ => q⟩
theorem ds_expr (he : DE X ca H0 x te) (hs : swapsWith x none pos.line X.env = pure false := by rfl) : DSt X ca H0 (.Expr x pos) (dExpr te) := ⟨fun B => ps_imp (ps_expr (he.pe B) hs) fun D σ H ⟨e, o, D', R, q, en⟩ =>
  ⟨e, o, _, R, q, fun d e1 q1 v H1 o1 R1 s1 h1 => en.1 e1 q1 σ H1 o1 R1 s1⟩⟩
theorem ds_ret (he : DE X ca H0 x te) : DSt X ca H0 (.Return (some x) pos) (dRet te) := ⟨fun B => ps_imp (ps_ret (he.pe B)) fun D σ H ⟨e, o, D', R, q, en⟩ =>
  ⟨e, o, _, R, q, fun d e1 q1 v H1 o1 R1 s1 h1 => en.2.1 d q1 v H1 R1.sm (Dv.mono (Stp.weak fun b z => z.1) _ _ h1)⟩⟩
theorem ds_retN : DSt X ca H0 (.Return none pos) dRetN := ⟨fun B => ps_imp ps_retN fun D σ H ⟨e, o, D', R, q, en⟩ => en.2.1 .non q .non H R.sm rfl⟩
theorem ds_if {c : TDT} (hc : DT X ca H0 x c) (ha : DSs X ca H0 a t) (hb : DSs X ca H0 b u) : DSt X ca H0 (.If x a b pos) (dIfS c t u) := ⟨fun B => ps_imp (ps_if (hc.pt B) (ha.ps B) (hb.ps B)) fun D σ H ⟨e, o, D', R, q, en⟩ =>
  ⟨e, o, _, R, q, fun b e1 q1 H1 o1 R1 s1 => by
    cases b with
    | true => exact ⟨e1, o1, D', R1, q1, en.from s1⟩
    | false => exact ⟨e1, o1, D', R1, q1, en.from s1⟩⟩⟩
theorem ls_asg {K : PySem.W.Frag} {B : Addr → Prop} : ∀ D σ H, LS K ca H0 B (dAsg te g) D σ H → tAsg (LE K ca H0 B te) (LG K ca H0 B ss g) D σ H := fun D σ H ⟨e, o, D', R, q, en⟩ =>
  ⟨e, o, _, R, q, fun d e1 q1 v H1 o1 R1 s1 h1 => ⟨e1, o1, d, _, R1, h1, q1, fun e2 q2 σ2 H2 o2 R2 s2 _ _ => en.1 e2 q2 σ2 H2 o2 R2 (s1.trans s2)⟩⟩
theorem ds_asg (he : DE X ca H0 x te) (hg : DG X ca H0 y ss g) (hs : swapsWithSole [y] x pos.line X.env = pure false := by rfl) (hw : swappedStores [y] x X.env = pure none := by rfl)
    (h1 : (assignEach [y] X.env).map (·.2) = [assign y X.env] := by rfl) : DSt X ca H0 (.Assign [y] x pos) (dAsg te g) := ⟨fun B => ps_imp (ps_asg (he.pe B) (hg.pg B) hs hw h1) ls_asg⟩
/-- x = a new list, x's own from now on -/
theorem ls_own {K : PySem.W.Frag} {B : Addr → Prop} {i : Nat} {tf : TDF} : ∀ D σ H, LS K ca H0 B (dOwn tf i) D σ H → tAsg (LF K ca H0 B tf) (gName i) D σ H := fun D σ H ⟨e, o, D', R, q, en⟩ =>
  ⟨e, o, _, R, q, fun xs e1 q1 p vs H1 o1 R1 s1 hp hs h0 hb hn hl => en.1 _ q1.2 _ H1 _ (R1.own hp h0 hb hn hl (Nat.lt_of_lt_of_le q1.1 R1.ln)) fun b u hk hu => ⟨okN_own (s1 b u hk hu).1 (hs b u hk hu), (s1 b u hk hu).2⟩⟩
theorem ds_own {i : Nat} {n : Str} {tf : TDF} {npos : Pos} (he : DF X ca H0 x tf) (hN : X.N.Nodup) (hi : X.N[i]? = some n) (hx : Loc X.env.scope n) (hf : X.fn n = true ∨ X.env.scope.names.lookup n = some .local := by first | exact .inl rfl | exact .inr rfl | assumption)
    (hs : swapsWithSole [.Name n npos] x pos.line X.env = pure false := by rfl) (hw : swappedStores [.Name n npos] x X.env = pure none := by rfl) (h1 : (assignEach [.Name n npos] X.env).map (·.2) = [assign (.Name n npos) X.env] := by rfl) :
    DSt X ca H0 (.Assign [.Name n npos] x pos) (dOwn tf i) := ⟨fun B => ps_imp (ps_asg (he.pe B) (pg_name hN hi hx hf) hs hw h1) ls_own⟩
theorem ds_while {c : TDT} {body : List Stmt} (hp : PassesOwn (model X.prog X.w) X.A X.env X.xe) (hc : DT X ca H0 x c) (hb : DSs X ca H0 body t) : DSt X ca H0 (.While x body [] pos) (dWhile c t) :=
  ⟨fun B => ps_imp (ps_while hp (hc.pt B) (hb.ps B)) fun D σ H ⟨e, o, D', R, ⟨W, ⟨m0, w0⟩, turn⟩, en⟩ =>
    ⟨fun m σ1 H1 => ∃ e1 o1, Rep X.K ca B H0 H1 σ1 e1 o1 ∧ Stp (okN e o) H (okN e1 o1) H1 ∧ W m e1, ⟨m0, e, o, R, Stp.refl, w0⟩, fun m σ1 H1 ⟨e1, o1, R1, s1, w1⟩ =>
      ⟨e1, o1, _, R1, turn m e1 w1, fun b e2 q2 H2 o2 R2 s2 => by
        cases b with
        | false => exact en.1 e2 q2 σ1 H2 o2 R2 (s1.trans s2)
        | true =>
          refine ⟨fun σ' H' => ∃ m', m' < m ∧ ∃ e1 o1, Rep X.K ca B H0 H' σ' e1 o1 ∧ Stp (okN e o) H (okN e1 o1) H' ∧ W m' e1, fun σ' H' z => z, e2, o2, _, R2, q2, ?_⟩
          exact ⟨fun e3 ⟨m', hm, w3⟩ σ3 H3 o3 R3 s3 => ⟨m', hm, e3, o3, R3, (s1.trans s2).trans s3, w3⟩, en.2.1, fun e3 q3 σ3 H3 o3 R3 s3 => en.1 e3 q3 σ3 H3 o3 R3 ((s1.trans s2).trans s3),
            fun e3 ⟨m', hm, w3⟩ σ3 H3 o3 R3 s3 => ⟨m', hm, e3, o3, R3, (s1.trans s2).trans s3, w3⟩⟩⟩⟩⟩
end

/-! ### what is walked -/
/-- the items, and what must hold of the frame at each turn -/
abbrev TDI := DEnv → (List D → (DEnv → Prop) → DEnv → Prop) → Prop
/-- an iterator yields the items xs as long as C stands; fixed: the slots ss stand as they stood at the start -/
def Yields (K : PySem.W.Frag) (ca : Str → Addr) (H0 : Hp) (k : Addr → Prop) (H : Hp) (σ0 : Option L2.St) (J : It) (xs : List D) (C : DEnv → Prop) : Prop :=
  ∀ (B' : Addr → Prop) (i : Nat) (σ : L2.St) (H' : Hp) (e : DEnv) (o : Nat → Addr), Rep K ca B' H0 H' σ e o → Stp k H (okA B' e o) H' → C e → (∀ τ, σ0 = some τ → ∀ (j : Nat) (v : V), σ[j]? = some (some v) → τ[j]? = some (some v)) →
    (i = xs.length → J.stop i H') ∧ (i < xs.length → J.go i H' ∧ ∀ v H'', J.yld i H' v H'' → Same H' H'' ∧ ∃ d, xs[i]? = some d ∧ Dv K ca H'' (okA B' e o) d v)
def LI (K : PySem.W.Frag) (ca : Str → Addr) (H0 : Hp) (B : Addr → Prop) (fixed : Bool) (t : TDI) : TI := fun σ H R => ∃ e o Q', Rep K ca B H0 H σ e o ∧ t e Q' ∧
  ∀ xs C e', Q' xs C e' → ∀ J H' o', Rep K ca B H0 H' σ e' o' → Stp (okN e o) H (okN e' o') H' → Yields K ca H0 (okA B e' o') H' (if fixed = true then some σ else none) J xs C → R J H'
structure DI (X : Cx) (ca : Str → Addr) (H0 : Hp) (fixed : Bool) (tg x : Expr) (t : TDI) : Prop where
  pi : ∀ B, PI X tg x (LI X.K ca H0 B fixed t)
/-! ### for -/
def forL (C : DEnv → Prop) (g : TDG) (tb : TDS) (F : DEnds) : List D → DEnv → Prop
  | [], e => C e ∧ F.nx e
  | x :: r, e => C e ∧ g x e fun e1 => tb { F with nx := forL C g tb F r, ct := forL C g tb F r, bk := F.nx } e1
def dFor (src : TDI) (g : TDG) (tb : TDS) : TDS := fun D e => src e fun xs C e1 => forL C g tb D xs e1
theorem drop_cons {α : Type} {xs : List α} {i : Nat} {d : α} (h : xs[i]? = some d) : xs.drop i = d :: xs.drop (i + 1) := by
  obtain ⟨h1, h2⟩ := List.getElem?_eq_some_iff.mp h
  rw [List.drop_eq_getElem_cons h1, h2]
section
variable {X : Cx} {ca : Str → Addr} {H0 : Hp} {x y z : Expr} {pos : Pos} {tb : TDS} {g : TDG} {ss : List Nat} {src : TDI}
theorem forL_C {C : DEnv → Prop} {F : DEnds} : ∀ {xs : List D} {e : DEnv}, forL C g tb F xs e → C e
  | [], _, h => h.1
  | _ :: _, _, h => h.1
theorem ls_for {K : PySem.W.Frag} {B : Addr → Prop} : ∀ D σ H, LS K ca H0 B (dFor src g tb) D σ H → tFor (LI K ca H0 B false src) (LG K ca H0 B ss g) (LS K ca H0 B tb) D σ H := fun D σ H ⟨e, o, D', R, q, en⟩ =>
  ⟨e, o, _, R, q, fun xs C e1 q1 J H1 o1 R1 s1 hy =>
    ⟨fun i m σ2 H2 => ∃ e2 o2, Rep K ca B H0 H2 σ2 e2 o2 ∧ Stp (okN e1 o1) H1 (okN e2 o2) H2 ∧ m = xs.length - i ∧ i ≤ xs.length ∧ forL C g tb D' (xs.drop i) e2, ⟨xs.length, e1, o1, R1, Stp.refl, rfl, Nat.zero_le _, q1⟩,
      fun i m σ2 H2 ⟨e2, o2, R2, s2, hm, hi, q2⟩ => by
        obtain ⟨ys, yg⟩ := hy B i σ2 H2 e2 o2 R2 s2.a (forL_C q2) (fun τ hτ => by cases hτ)
        by_cases hlt : i < xs.length
        · obtain ⟨hgo, hyl⟩ := yg hlt
          refine .inr ⟨hgo, fun σ3 H3 => ∃ e3 o3, Rep K ca B H0 H3 σ3 e3 o3 ∧ Stp (okN e1 o1) H1 (okN e3 o3) H3 ∧ forL C g tb D' (xs.drop (i + 1)) e3, fun σ3 H3 ⟨e3, o3, R3, s3, q3⟩ => ⟨m - 1, by omega, e3, o3, R3, s3, by omega, hlt, q3⟩, fun v H3 hv => ?_⟩
          obtain ⟨sm, d, hd, hdv⟩ := hyl v H3 hv
          rw [drop_cons hd] at q2
          refine ⟨e2, o2, d, _, R2.grow sm, hdv, q2.2, fun e3 q3 σ3 H4 o3 R3 s3 _ _ => ⟨e3, o3, _, R3, q3, ?_⟩⟩
          have st : Stp (okN e1 o1) H1 (okN e3 o3) H4 := (s2.trans (Stp.same sm)).trans s3
          exact ⟨fun e4 q4 σ4 H5 o4 R4 s4 => ⟨e4, o4, R4, st.trans s4, q4⟩, en.2.1, fun e4 q4 σ4 H5 o4 R4 s4 => en.1 e4 q4 σ4 H5 o4 R4 ((s1.trans st).trans s4), fun e4 q4 σ4 H5 o4 R4 s4 => ⟨e4, o4, R4, st.trans s4, q4⟩⟩
        · have hx : xs.drop i = [] := List.drop_of_length_le (by omega)
          rw [hx] at q2
          exact .inl ⟨ys (by omega), en.1 e2 q2.2 σ2 H2 o2 R2 (s1.trans s2)⟩⟩⟩
theorem ds_for {body : List Stmt} (hp : PassesOwn (model X.prog X.w) X.A X.env X.xe) (hc : X.calm = true) (hi : DI X ca H0 false y x src) (hg : DG X ca H0 y ss g) (hb : DSs X ca H0 body tb) (hs : ∀ v, foldedSetIterable x X.env v = pure v := by intro _; rfl) :
    DSt X ca H0 (.For y x body [] pos) (dFor src g tb) := ⟨fun B => ps_imp (ps_for hp hc (hi.pi B) (hg.pg B) (hb.ps B) hs) ls_for⟩
end
end DL
set_option Elab.async false
set_option linter.all false
set_option maxRecDepth 100000
set_option maxHeartbeats 4000000
/-! DH: what the hand layer lacks: zip and enumerate over lists and tuples in any mix; a loop over a list, a tuple or a text, as it comes -/
namespace DL
open PySem PySem.Spec L2

def SqB (l : Bool) (K : PySem.W.Frag) (H : Hp) (a : Addr) (xs : List V) : Prop := match l with
  | true => SqL K H a xs
  | false => SqT K H a xs
def ItB (l : Bool) (h : Heap) (it a : Addr) (i : Nat) : Prop := match l with
  | true => h.IsListIter it a i
  | false => h.IsTupleIter it a i
def IsB (l : Bool) (h : Heap) (a : Addr) (its : Array Value) : Prop := match l with
  | true => h.IsList a its
  | false => h.IsTuple a its
def itObj (l : Bool) (a : Addr) : Obj := match l with
  | true => { cls := .type "list_iterator", data := .fields #[.ref a, .int 0 0] }
  | false => { cls := .type "tuple_iterator", data := .fields #[.ref a, .int 0 0] }
theorem beginsB (l : Bool) (a : Addr) (its : Array Value) : Begins (.ref a) (itObj l a) fun h => IsB l h a its := by
  cases l with
  | true => exact begins_list a its
  | false => exact begins_tuple a its
theorem drawsB {prog : Program} {w : World} {A : Around} (l : Bool) (hh : A.handled = none) (it a : Addr) (hne : a ≠ it) (its : Array Value) :
    Draws prog w A it [it, a] its.size (fun i v => its[i]? = some v) (fun i h => ItB l h it a i ∧ IsB l h a its) := by
  cases l with
  | true => exact Draws.list hh it a hne its
  | false => exact Draws.tuple hh it a hne its
theorem ItB.obj {l : Bool} {h : Heap} {it a : Addr} {i : Nat} (x : ItB l h it a i) : ∃ o, h.get? it = some o ∧ ∀ v, o.data ≠ .cell v := by
  cases l with
  | true =>
    obtain ⟨o, e, c, d⟩ := x
    exact ⟨o, e, fun v z => by rw [d] at z; cases z⟩
  | false =>
    obtain ⟨o, e, c, d⟩ := x
    exact ⟨o, e, fun v z => by rw [d] at z; cases z⟩
theorem ItB.at {l : Bool} {h h' : Heap} {it a : Addr} {i : Nat} (x : ItB l h it a i) (k : ∀ o, h.get? it = some o → h'.get? it = some o) : ItB l h' it a i := by
  cases l with
  | true => exact Heap.IsListIter.at x k
  | false => exact Heap.IsTupleIter.at x k
theorem ItB.start {l : Bool} {h : Heap} {it a : Addr} (e : h.get? it = some (itObj l a)) : ItB l h it a 0 := by
  cases l with
  | true => exact ⟨_, e, rfl, rfl⟩
  | false => exact ⟨_, e, rfl, rfl⟩
section
variable {X : Cx} {pins : List (Addr × Obj)} {σ : L2.St} {H : Hp} {s : Shared} {l : Bool} {a : Addr} {xs ys : List V}
theorem invB (I : Inv X pins σ H s) (h : SqB l X.K H a xs) : ∃ its : List Value, Vals xs its ∧ IsB l s.heap a its.toArray ∧ xs.length ≤ sizeLine ∧ a < s.heap.objs.size := by
  cases l with
  | true =>
    obtain ⟨its, r, p, z⟩ := I.list h
    exact ⟨its, r, p.isList, z, p.lt⟩
  | false =>
    obtain ⟨its, r, p, z⟩ := I.tuple h
    exact ⟨its, r, p, z, by obtain ⟨o, e, _⟩ := p; exact Heap.lt_size e⟩
theorem injB (I : Inv X pins σ H s) (h : SqB l X.K H a xs) (h' : SqB l X.K H a ys) : xs = ys := by
  cases l with
  | true => exact I.list_inj h h'
  | false => exact I.tuple_inj h h'
end

theorem ItB.ne {X : Cx} {pins : List (Addr × Obj)} {σ : L2.St} {H : Hp} {s : Shared} {l : Bool} {a it : Addr} {xs : List V} {i : Nat} (I : Inv X pins σ H s) (hq : SqB l X.K H a xs) (h : ItB l s.heap it a i) (hn : H it = none) : a ≠ it := fun q => by
  refine absurd hn ?_
  rw [← q]
  cases l with
  | true =>
    rcases hq with (h | ⟨o, h⟩) | ⟨o, its, n, e2, e3, _⟩
    · rw [h]; exact fun z => nomatch z
    · rw [h]; exact fun z => nomatch z
    · have h4 := I.kIn a o e2
      obtain ⟨o', e5, e6, e7⟩ : s.heap.IsListIter it a i := h
      rw [← q, h4] at e5
      have e8 : o = o' := Option.some.inj e5
      rw [← e8, e3] at e6
      exact absurd e6 (by decide)
  | false =>
    rcases hq with (h | ⟨o, h⟩) | ⟨o, its, n, e2, e3, _⟩
    · rw [h]; exact fun z => nomatch z
    · rw [h]; exact fun z => nomatch z
    · have h4 := I.kIn a o e2
      obtain ⟨o', e5, e6, e7⟩ : s.heap.IsTupleIter it a i := h
      rw [← q, h4] at e5
      have e8 : o = o' := Option.some.inj e5
      rw [← e8, e3] at e6
      exact absurd e6 (by decide)
theorem mem_one {a : Addr} {n : Nat} (h : a < n) : ∀ c ∈ [a], c < n := fun c hc => by
  have e : c = a := by simpa using hc
  rw [e]
  exact h

/-! ### zip -/
def ItzM (l1 l2 : Bool) (K : PySem.W.Frag) (a b : Addr) : It :=
  ⟨fun i H => ∃ (xs ys : List V) (x y : V), SqB l1 K H a xs ∧ SqB l2 K H b ys ∧ xs[i]? = some x ∧ ys[i]? = some y,
    fun i H v H' => ∃ T x y, v = .ref T ∧ H T = none ∧ H' = upd H T (.tup [x, y]) ∧ (∀ xs, SqB l1 K H a xs → xs[i]? = some x) ∧ ∀ ys, SqB l2 K H b ys → ys[i]? = some y,
    fun i H => ∃ xs ys : List V, SqB l1 K H a xs ∧ SqB l2 K H b ys ∧ i ≤ xs.length ∧ i ≤ ys.length ∧ (i = xs.length ∨ i = ys.length)⟩
theorem turn_zipM {P : Program} {w : World} {K : PySem.W.Frag} {elts : List Expr} {kk : Nat} {tpos : Pos} {l1 l2 : Bool} {a b z TI TO i1 i2 : Addr} (D : ZipSep2 z TI TO i1 i2 [i1, a] [i2, b]) :
    Turn P w K (.Tuple elts kk tpos) (ItzM l1 l2 K a b) [z, TI, TO, i1, i2] z (fun i h => IsZip h z TI TO .none ∧ IsTupOf2 h TI (.ref i1) (.ref i2) ∧ (∃ x y, IsTupOf2 h TO x y) ∧ ItB l1 h i1 a i ∧ ItB l2 h i2 b i) where
  mem := by simp
  obj := fun i h st c hc => by
    obtain ⟨hz, hTI, ⟨x, y, hTO⟩, h1, h2⟩ := st
    have e' : c = z ∨ c = TI ∨ c = TO ∨ c = i1 ∨ c = i2 := by simpa using hc
    rcases e' with q | q | q | q | q
    · rw [q]; exact ⟨_, hz, fun v q => nomatch q⟩
    · rw [q]; exact ⟨_, hTI, fun v q => nomatch q⟩
    · rw [q]; exact ⟨_, hTO, fun v q => nomatch q⟩
    · rw [q]; exact h1.obj
    · rw [q]; exact h2.obj
  keep := fun i h h' st k => by
    obtain ⟨hz, hTI, ⟨x, y, hTO⟩, h1, h2⟩ := st
    exact ⟨k z (by simp) _ hz, k TI (by simp) _ hTI, ⟨x, y, k TO (by simp) _ hTO⟩, h1.at fun o q => k i1 (by simp) o q, h2.at fun o q => k i2 (by simp) o q⟩
  item := by
    intro X hP hw hK hc i pins s σ H E I hf st hg
    subst hP hw hK
    obtain ⟨hz, hTI, ⟨x0, y0, hTO⟩, h1, h2⟩ := st
    obtain ⟨xs, ys, x, y, hqx, hqy, hx, hy⟩ := hg
    obtain ⟨its, rv, p, _, _⟩ := invB I hqx
    obtain ⟨its2, rv2, p2, _, _⟩ := invB I hqy
    obtain ⟨u, hu, ru⟩ := rv.get hx
    obtain ⟨u2, hu2, ru2⟩ := rv2.get hy
    have hzl : z < s.heap.objs.size := Heap.lt_size hz
    have hh : X.A.in1.handled = none := I.ok.hd hc
    have n1 : a ≠ i1 := ItB.ne I hqx h1 (hf i1 (by simp)).1
    have n2 : b ≠ i2 := ItB.ne I hqy h2 (hf i2 (by simp)).1
    refine wpAny_pyNext_zipD2_item D (drawsB l1 hh i1 a n1 its.toArray) (drawsB l2 hh i2 b n2 its2.toArray) hz hTI hTO ⟨h1, p⟩ ⟨h2, p2⟩
      (by have := (List.getElem?_eq_some_iff.mp hu).1; simpa using this) (by have := (List.getElem?_eq_some_iff.mp hu2).1; simpa using this) fun x1 x2 h' tk q1 q2 z' TO' h1' h2' hT hsz hk => ?_
    have e1 : x1 = u := by
      have q1' : its[i]? = some x1 := by simpa using q1
      rw [hu] at q1'
      exact (Option.some.inj q1').symm
    have e2 : x2 = u2 := by
      have q2' : its2[i]? = some x2 := by simpa using q2
      rw [hu2] at q2'
      exact (Option.some.inj q2').symm
    subst e1 e2
    refine ⟨_, rfl, wpAny_letOwnedTupleGo_zip (s := { s with heap := h', toks := tk }) z' fun h'' z'' sb => ?_⟩
    have hT2 : h''.get? s.heap.objs.size = some { cls := .type "tuple", data := .seq #[x1, x2] } := (sb.2 _ (Nat.ne_of_gt hzl)).trans hT
    have new : ObjOk X.prog X.w (upd H s.heap.objs.size (.tup [x, y])) h'' s.heap.objs.size (.tup [x, y]) :=
      ⟨by show 2 ≤ sizeLine; decide, [x1, x2], .cons ru (.cons ru2 .nil), ⟨_, hT2, rfl, _, rfl⟩⟩
    have I1 : Inv X pins σ (upd H s.heap.objs.size (.tup [x, y])) { s with heap := h'', toks := tk } :=
      I.turnedNew (ch := [z, TI, TO, i1, i2]) (fun c o hb q => (sb.2 c (fun q' => hb (by simp [q']))).trans (hk c o (fun q' => hb (by simp [q'])) (fun q' => hb (by simp [q'])) (fun q' => hb (by simp [q'])) (fun q' => hb (by simp [q'])) q)) hf (Nat.le_refl _) new
    refine ⟨.ref s.heap.objs.size, _, I1, rfl, ⟨_, x, y, rfl, I.hok.fresh (Nat.le_refl _), rfl, fun l hl => by rw [injB I hl hqx]; exact hx, fun l hl => by rw [injB I hl hqy]; exact hy⟩, ⟨z'', ?_, ⟨x1, x2, ?_⟩, ?_, ?_⟩, fun c hcm => ?_⟩
    · exact (sb.2 _ D.TIz).trans (hk _ _ D.TIz D.TITO D.TIi1 D.TIi2 hTI)
    · exact (sb.2 _ D.TOz).trans TO'
    · exact h1'.1.at fun o q => (sb.2 _ (Ne.symm D.zi1)).trans q
    · exact h2'.1.at fun o q => (sb.2 _ (Ne.symm D.zi2)).trans q
    · have hlt : c < s.heap.objs.size := by
        have e' : c = z ∨ c = TI ∨ c = TO ∨ c = i1 ∨ c = i2 := by simpa using hcm
        rcases e' with q | q | q | q | q
        · rw [q]; exact hzl
        · rw [q]; exact Heap.lt_size hTI
        · rw [q]; exact Heap.lt_size hTO
        · rw [q]; obtain ⟨_, e1, _⟩ := h1.obj; exact Heap.lt_size e1
        · rw [q]; obtain ⟨_, e2, _⟩ := h2.obj; exact Heap.lt_size e2
      rw [upd_ne (Nat.ne_of_lt hlt)]
      exact (hf c hcm).1
  done := by
    intro X hP hw hK hc i pins s σ H E I hf st hg
    subst hP hw hK
    obtain ⟨hz, hTI, ⟨x0, y0, hTO⟩, h1, h2⟩ := st
    obtain ⟨xs, ys, hqx, hqy, hl1, hl2, hend⟩ := hg
    obtain ⟨its, rv, p, _, _⟩ := invB I hqx
    obtain ⟨its2, rv2, p2, _, _⟩ := invB I hqy
    have e1 := rv.length
    have e2 := rv2.length
    have hh : X.A.in1.handled = none := I.ok.hd hc
    have n1 : a ≠ i1 := ItB.ne I hqx h1 (hf i1 (by simp)).1
    have n2 : b ≠ i2 := ItB.ne I hqy h2 (hf i2 (by simp)).1
    refine wpAny_pyNext_zipD2_end D (drawsB l1 hh i1 a n1 its.toArray) (drawsB l2 hh i2 b n2 its2.toArray) hz hTI hTO ⟨h1, p⟩ ⟨h2, p2⟩ (by simp; omega) (by simp; omega) (by simp; omega) fun h' tk hk => ⟨rfl, I.turnedL (ch := [z, TI, TO, i1, i2]) (fun c o hb q =>
      hk c o (fun q' => hb (by simp [q'])) (fun q' => hb (by simp [q'])) (fun q' => hb (by simp [q'])) (fun q' => hb (by simp [q'])) q) hf⟩
  self := fun A i s Q E st h => wpAny_pyIter_zip st.1 h
def iZipM (K : PySem.W.Frag) (ta : TA) : TI := fun σ H R => ta σ H fun vs H1 => ∃ a b xs ys l1 l2, vs = [.ref a, .ref b] ∧ SqB l1 K H1 a xs ∧ SqB l2 K H1 b ys ∧ (xs.length ≤ sizeLine → ys.length ≤ sizeLine → R (ItzM l1 l2 K a b) H1)
theorem pi_zipM {X : Cx} {e e2 : Expr} {ta : TA} {p pos tpos : Pos} {elts : List Expr} {kk : Nat} (hg : Gl X "zip") (hm : X.mg "zip" = none) (ha : PA X [e, e2] ta)
    (hs : starEach [e, e2] X.env = (false, eval e X.env) :: starEach [e2] X.env := by rfl) (hpl : (backTo pos (starEach [e2] X.env)).any (·.1) = false := by rfl) :
    PI X (.Tuple elts kk tpos) (.Call (.Name "zip" p) [e, e2] [] pos) (iZipM X.K ta) := by
  refine ⟨fun pins s σ H R I h => ?_⟩
  refine PyProof.Rows.Call_ (ld_blt I hg hm PyProof.Rows.boot_zip (PyProof.Rows.callWith_type1 (thn (ha.run pos pins s σ H _ I h) fun us s1 ⟨vs, H1, I1, r1, q1⟩ => ?_) hs hpl))
  obtain ⟨a, b, xs, ys, l1, l2, ex, hqx, hqy, q⟩ := q1
  subst ex
  cases r1 with
  | cons r rr =>
    cases rr with
    | cons r' rr =>
      cases rr
      cases r
      cases r'
      obtain ⟨its, rv, p1, lz, la⟩ := invB I1 hqx
      obtain ⟨its2, rv2, p2, lz2, lb⟩ := invB I1 hqy
      have q := q lz lz2
      refine zip_begins2 (beginsB l1 a its.toArray) (beginsB l2 b its2.toArray) p1 p2 fun h' hz hTI hTO h1 h2 hsz hk => wpAny_pyIter_zip hz ?_
      have I2 : Inv X pins σ H1 { s1 with heap := h' } := I1.kept (t' := s1.toks) hk
      refine ⟨s1.heap.objs.size + 4, [s1.heap.objs.size + 4, s1.heap.objs.size + 2, s1.heap.objs.size + 3, s1.heap.objs.size, s1.heap.objs.size + 1], _, _, H1, rfl, I2,
        turn_zipM (zip_sep2 (fp1 := [a]) (fp2 := [b]) (mem_one la) (mem_one lb)), ⟨hz, hTI, ⟨_, _, hTO⟩, ItB.start h1, ItB.start h2⟩, fun c hcm => ?_, q⟩
      have e' : c = s1.heap.objs.size + 4 ∨ c = s1.heap.objs.size + 2 ∨ c = s1.heap.objs.size + 3 ∨ c = s1.heap.objs.size ∨ c = s1.heap.objs.size + 1 := by simpa using hcm
      have hle : s1.heap.objs.size ≤ c := by
        rcases e' with z | z | z | z | z
        · rw [z]; exact Nat.le_add_right _ _
        · rw [z]; exact Nat.le_add_right _ _
        · rw [z]; exact Nat.le_add_right _ _
        · rw [z]; exact Nat.le_refl _
        · rw [z]; exact Nat.le_add_right _ _
      exact I1.fpOk hle (I1.hok.fresh hle)

/-! ### enumerate -/
set_option maxHeartbeats 1000000 in
theorem meets_enumB1 {v : Value} {o : Obj} {H : Heap → Prop} (B : Begins v o H) :
    Meets (Builtin.«enumerate.__new__» ⟨[.type "enumerate", v], []⟩) (fun _ R s => H s.heap ∧
      R (.ok (.ret (.ref (s.heap.push o).objs.size))) { s with heap := (s.heap.push o).push { cls := .type "enumerate", data := .fields #[.none, .bool false, .ref s.heap.objs.size, rawInt 0, .none, .none] } }) :=
  .of_wp fun prog w A R s h => by
    obtain ⟨hp, g, d, tk, os⟩ := s; obtain ⟨h1, h⟩ := h
    have hsub := sub_enumerate
    have q1 : ∀ {A' : Around} {E : Value → Shared → Prop} {Q : Value → Shared → Prop}, Q (.ref hp.objs.size) ⟨hp.push o, g, d, tk, os⟩ → wpAny (model prog w) A' (pyIter v) Q E ⟨hp, g, d, tk, os⟩ :=
      fun q => B.iter prog w _ _ ⟨hp, g, d, tk, os⟩ _ h1 q
    wp_walk using q1
    refine wpAny_stack_any fun st => wpAny_pure ?_
    split
    · rename_i c _ _ _ _ _
      cases (c == Value.type "enumerate")
      · wp_walk using q1
        exact ⟨_, rfl, h⟩
      · wp_walk using q1
        exact ⟨_, rfl, h⟩
    · wp_walk using q1
      exact ⟨_, rfl, h⟩
section
variable {prog : Program} {w : World} {A : Around} {E : Value → Shared → Prop} {s : Shared}
theorem enum_begins1 {v : Value} {o : Obj} {H : Heap → Prop} {Q : Value → Shared → Prop} (B : Begins v o H) (h1 : H s.heap)
    (h : ∀ h', IsEnum h' (s.heap.objs.size + 1) s.heap.objs.size 0 .none → h'.get? s.heap.objs.size = some o → h'.objs.size = s.heap.objs.size + 2 →
      (∀ b o, s.heap.get? b = some o → h'.get? b = some o) → Q (.ref (s.heap.objs.size + 1)) { s with heap := h' }) :
    wpAny (model prog w) A (call (.type "enumerate") [v]) Q E s := by
  refine callType_new F.called_enumerate (by decide) (F.typeCall_enumerate_1 _) (F.newCall_enumerate_1 _) (fun obj => F.args_object_init_2 obj _) F.entry_enumerate_new
    (meets_enumB1 B) ⟨h1, ?_⟩
  have hz : (s.heap.push o).objs.size = s.heap.objs.size + 1 := Heap.size_push ..
  show _ ∧ _
  rw [hz]
  have he : IsEnum ((s.heap.push o).push { cls := .type "enumerate", data := .fields #[.none, .bool false, .ref s.heap.objs.size, rawInt 0, .none, .none] }) (s.heap.objs.size + 1) s.heap.objs.size 0 .none := by
    have := Heap.get?_push_size (s.heap.push o) (o := { cls := .type "enumerate", data := .fields #[.none, .bool false, .ref s.heap.objs.size, rawInt 0, .none, .none] }) rfl
    rw [hz] at this; exact this
  refine ⟨⟨_, he, rfl⟩, h _ he (Heap.get?_push_of_some _ (Heap.get?_push_size _ B.free)) (by rw [Heap.size_push, hz]) fun b o x => Heap.get?_push_of_some _ (Heap.get?_push_of_some _ x)⟩
end
def IteM (l : Bool) (K : PySem.W.Frag) (a : Addr) : It :=
  ⟨fun i H => ∃ (xs : List V) (x : V), SqB l K H a xs ∧ xs[i]? = some x, fun i H v H' => ∃ T x, v = .ref T ∧ H T = none ∧ H' = upd H T (.tup [.int (i : Nat), x]) ∧ ∀ xs, SqB l K H a xs → xs[i]? = some x, fun i H => ∃ xs : List V, SqB l K H a xs ∧ i = xs.length⟩
theorem turn_enumM {P : Program} {w : World} {K : PySem.W.Frag} {elts : List Expr} {kk : Nat} {tpos : Pos} (l : Bool) (a e it : Addr) :
    Turn P w K (.Tuple elts kk tpos) (IteM l K a) [e, it] e (fun i h => (∃ old, IsEnum h e it ((i : Nat) : Int) old) ∧ ItB l h it a i ∧ e ≠ it ∧ e ≠ a) where
  mem := by simp
  obj := fun i h st b hb => by
    obtain ⟨⟨old, he⟩, hi, _⟩ := st
    have e' : b = e ∨ b = it := by simpa using hb
    rcases e' with z | z
    · rw [z]; exact ⟨_, he, fun v q => nomatch q⟩
    · rw [z]; exact hi.obj
  keep := fun i h h' st k => let ⟨⟨old, he⟩, hi, hne⟩ := st; ⟨⟨old, k e (by simp) _ he⟩, hi.at fun o q => k it (by simp) o q, hne⟩
  item := by
    intro X hP hw hK hc i pins s σ H E I hf st hg
    subst hP hw hK
    obtain ⟨⟨old, he⟩, hit, hne, hna⟩ := st
    obtain ⟨xs, x, hq, hx⟩ := hg
    obtain ⟨its, rv, p, hz, _⟩ := invB I hq
    obtain ⟨u, hu, ru⟩ := rv.get hx
    have hel : e < s.heap.objs.size := Heap.lt_size he
    have hil : it < s.heap.objs.size := by obtain ⟨_, q, _⟩ := hit.obj; exact Heap.lt_size q
    have hh : X.A.in1.handled = none := I.ok.hd hc
    have n1 : a ≠ it := ItB.ne I hq hit (hf it (by simp)).1
    refine wpAny_pyNext_enum_itemC (drawsB l hh it a n1 its.toArray) he ⟨hit, p⟩ (by have := (List.getElem?_eq_some_iff.mp hu).1; simpa using this) hne (by simp [hne, hna]) fun x1 h' tk q1 ho hit' hT hsz hk => ?_
    have e1 : x1 = u := by
      have q1' : its[i]? = some x1 := by simpa using q1
      rw [hu] at q1'
      exact (Option.some.inj q1').symm
    subst e1
    refine ⟨_, rfl, wpAny_letOwnedTupleGo_enum (s := { s with heap := h', toks := tk + 1 }) ho fun h'' he' sb => ?_⟩
    have hT2 : h''.get? s.heap.objs.size = some { cls := .type "tuple", data := .seq #[.int i tk, x1] } := (sb.2 _ (Nat.ne_of_gt hel)).trans hT
    have new : ObjOk X.prog X.w (upd H s.heap.objs.size (.tup [.int (i : Nat), x])) h'' s.heap.objs.size (.tup [.int (i : Nat), x]) :=
      ⟨by show 2 ≤ sizeLine; decide, [.int i tk, x1], .cons ⟨_, rfl⟩ (.cons ru .nil), ⟨_, hT2, rfl, _, rfl⟩⟩
    have I1 : Inv X pins σ (upd H s.heap.objs.size (.tup [.int (i : Nat), x])) { s with heap := h'', toks := tk + 1 } :=
      I.turnedNew (ch := [e, it]) (fun b ob hb q => (sb.2 b (fun z => hb (by simp [z]))).trans (hk b ob (fun z => hb (by simp [z])) (fun z => hb (by simp [z])) q)) hf (Nat.le_refl _) new
    refine ⟨.ref s.heap.objs.size, _, I1, rfl, ⟨_, x, rfl, I.hok.fresh (Nat.le_refl _), rfl, fun ys hy => by rw [injB I hy hq]; exact hx⟩, ⟨⟨x1, ?_⟩, hit'.1.at fun o q => (sb.2 it (Ne.symm hne)).trans q, hne, hna⟩, fun b hb => ?_⟩
    · have e1 : ((i + 1 : Nat) : Int) = (i : Int) + 1 := by omega
      rw [e1]; exact he'
    · have hb' : b < s.heap.objs.size := by
        have e' : b = e ∨ b = it := by simpa using hb
        rcases e' with z | z
        · rw [z]; exact hel
        · rw [z]; exact hil
      rw [upd_ne (Nat.ne_of_lt hb')]
      exact (hf b hb).1
  done := by
    intro X hP hw hK hc i pins s σ H E I hf st hg
    subst hP hw hK
    obtain ⟨⟨old, he⟩, hit, hne, hna⟩ := st
    obtain ⟨xs, hq, hx⟩ := hg
    obtain ⟨its, rv, p, hz, _⟩ := invB I hq
    obtain ⟨f0, f1, f2, f3, f4, f5⟩ := hf it (by simp)
    have hl := rv.length
    have hh : X.A.in1.handled = none := I.ok.hd hc
    have n1 : a ≠ it := ItB.ne I hq hit f0
    have hi : i = its.toArray.size := by simp; omega
    refine wpAny_pyNext_enum_endD (drawsB l hh it a n1 its.toArray) he (by rw [← hi]; exact ⟨hit, p⟩) fun h' eb => ⟨rfl, I.turned (t' := s.toks) (fun b o hb q => eb b o hb q) f0 f1 f3 f4 f5⟩
  self := fun A i s Q E st h => let ⟨⟨_, he⟩, _⟩ := st; wpAny_pyIter_enum he h
def iEnumM (K : PySem.W.Frag) (ta : TA) : TI := fun σ H R => ta σ H fun vs H1 => ∃ a xs l, vs = [.ref a] ∧ SqB l K H1 a xs ∧ (xs.length ≤ sizeLine → R (IteM l K a) H1)
theorem pi_enumM {X : Cx} {e : Expr} {ta : TA} {p pos tpos : Pos} {elts : List Expr} {kk : Nat} (hg : Gl X "enumerate") (hm : X.mg "enumerate" = none) (ha : PA X [e] ta) (hs : starEach [e] X.env = [(false, eval e X.env)] := by rfl) :
    PI X (.Tuple elts kk tpos) (.Call (.Name "enumerate" p) [e] [] pos) (iEnumM X.K ta) := by
  refine ⟨fun pins s σ H R I h => ?_⟩
  refine PyProof.Rows.Call_ (ld_blt I hg hm PyProof.Rows.boot_enumerate (PyProof.Rows.callWith_type1 (thn (ha.run pos pins s σ H _ I h) fun us s1 ⟨vs, H1, I1, r1, q1⟩ => ?_) hs rfl))
  obtain ⟨a, xs, l, ex, hq, q⟩ := q1
  subst ex
  cases r1 with
  | cons r rr =>
    cases rr
    cases r
    obtain ⟨its, rv, p', hz, la⟩ := invB I1 hq
    have q := q hz
    refine enum_begins1 (beginsB l a its.toArray) p' fun h' he hit hsz hk => wpAny_pyIter_enum he ?_
    have I2 : Inv X pins σ H1 { s1 with heap := h' } := I1.kept (t' := s1.toks) hk
    refine ⟨s1.heap.objs.size + 1, [s1.heap.objs.size + 1, s1.heap.objs.size], _, _, H1, rfl, I2, turn_enumM l a (s1.heap.objs.size + 1) s1.heap.objs.size, ⟨⟨.none, he⟩, ItB.start hit, Nat.succ_ne_self _, fun z => absurd la (by rw [← z]; exact fun q => Nat.not_succ_le_self _ (Nat.le_of_lt q))⟩, fun b hb => ?_, q⟩
    have e' : b = s1.heap.objs.size + 1 ∨ b = s1.heap.objs.size := by simpa using hb
    have hle : s1.heap.objs.size ≤ b := by
      rcases e' with z | z
      · rw [z]; exact Nat.le_add_right _ _
      · rw [z]; exact Nat.le_refl _
    exact I1.fpOk hle (I1.hok.fresh hle)

/-! ### a list, a tuple, a text -/
def iSeq (K : PySem.W.Frag) (tl : TE) : TI := fun σ H R => tl σ H fun x H1 => (∃ a, x = .ref a ∧ ∃ xs, SqL K H1 a xs ∧ (xs.length ≤ sizeLine → R (Itl K a) H1)) ∨ (∃ a, x = .ref a ∧ ∃ xs, SqT K H1 a xs ∧ (xs.length ≤ sizeLine → R (Itt K a) H1)) ∨ ∃ z, x = .str z ∧ R (Its z) H1
theorem pi_seq {X : Cx} {tg l : Expr} {tl : TE} (hl : PE X l tl) : PI X tg l (iSeq X.K tl) := by
  refine ⟨fun pins s σ H R I h => ?_⟩
  refine thn (hl.run pins s σ H _ I h) fun v s1 ⟨x, H1, I1, r1, q1⟩ => ?_
  rcases q1 with ⟨a, e, xs, hq, q⟩ | ⟨a, e, xs, hq, q⟩ | ⟨z, e, q⟩
  · subst e
    cases r1
    obtain ⟨its, rv, p, hz⟩ := I1.list hq
    have q := q hz
    refine wpAny_pyIter_list p.isList ?_
    refine ⟨s1.heap.objs.size, [s1.heap.objs.size], _, _, H1, rfl, I1.kept (t' := s1.toks) fun b o e => Heap.get?_push_of_some _ e, turn_list a _, ⟨_, Heap.get?_push_size _ rfl, rfl, rfl⟩, fun b hb => ?_, q⟩
    have e : b = s1.heap.objs.size := by simpa using hb
    subst e
    exact I1.fpOk (Nat.le_refl _) (I1.hok.fresh (Nat.le_refl _))
  · subst e
    cases r1
    obtain ⟨its, rv, p, hz⟩ := I1.tuple hq
    have q := q hz
    refine wpAny_pyIter_tuple (show s1.heap.IsTuple a its.toArray from p) ?_
    refine ⟨s1.heap.objs.size, [s1.heap.objs.size], _, _, H1, rfl, I1.kept (t' := s1.toks) fun b o e => Heap.get?_push_of_some _ e, turn_tuple a _, ⟨_, Heap.get?_push_size _ rfl, rfl, rfl⟩, fun b hb => ?_, q⟩
    have e : b = s1.heap.objs.size := by simpa using hb
    subst e
    exact I1.fpOk (Nat.le_refl _) (I1.hok.fresh (Nat.le_refl _))
  · subst e
    obtain ⟨t, rfl⟩ := r1
    cases ha : z.cps.all (· < 128)
    · exact wpAny_pyIter_wide ha (pi_one (tk := s1.toks) I1 _ (turn_str _ z t "str_iterator" (.inr rfl)) ⟨_, Heap.get?_push_size _ rfl, rfl, rfl⟩ q)
    · exact wpAny_pyIter_ascii ha (pi_one (tk := s1.toks) I1 _ (turn_str _ z t "str_ascii_iterator" (.inl rfl)) ⟨_, Heap.get?_push_size _ rfl, rfl, rfl⟩ q)
end DL
set_option Elab.async false
set_option linter.all false
set_option maxRecDepth 100000
set_option maxHeartbeats 4000000
/-! DD: what loops and comprehensions walk; comprehensions; defs and their calls -/
namespace DL
open PySem PySem.Spec L2

/-! ### for .. else -/
def forE (C : DEnv → Prop) (g : TDG) (tb u : TDS) (F : DEnds) : List D → DEnv → Prop
  | [], e => C e ∧ u F e
  | x :: r, e => C e ∧ g x e fun e1 => tb { F with nx := forE C g tb u F r, ct := forE C g tb u F r, bk := F.nx } e1
def dForE (src : TDI) (g : TDG) (tb u : TDS) : TDS := fun F e => src e fun xs C e1 => forE C g tb u F xs e1
section
variable {X : Cx} {ca : Str → Addr} {H0 : Hp} {x y z : Expr} {pos : Pos} {tb u : TDS} {g : TDG} {ss : List Nat} {src : TDI}
theorem forE_C {C : DEnv → Prop} {F : DEnds} : ∀ {xs : List D} {e : DEnv}, forE C g tb u F xs e → C e
  | [], _, h => h.1
  | _ :: _, _, h => h.1
theorem ls_forE {K : PySem.W.Frag} {B : Addr → Prop} : ∀ F σ H, LS K ca H0 B (dForE src g tb u) F σ H → tForE (LI K ca H0 B false src) (LG K ca H0 B ss g) (LS K ca H0 B tb) (LS K ca H0 B u) F σ H := fun F σ H ⟨e, o, D', R, q, en⟩ =>
  ⟨e, o, _, R, q, fun xs C e1 q1 J H1 o1 R1 s1 hy =>
    ⟨fun i m σ2 H2 => ∃ e2 o2, Rep K ca B H0 H2 σ2 e2 o2 ∧ Stp (okN e1 o1) H1 (okN e2 o2) H2 ∧ m = xs.length - i ∧ i ≤ xs.length ∧ forE C g tb u D' (xs.drop i) e2, ⟨xs.length, e1, o1, R1, Stp.refl, rfl, Nat.zero_le _, q1⟩,
      fun i m σ2 H2 ⟨e2, o2, R2, s2, hm, hi, q2⟩ => by
        obtain ⟨ys, yg⟩ := hy B i σ2 H2 e2 o2 R2 s2.a (forE_C q2) (fun τ hτ => by cases hτ)
        by_cases hlt : i < xs.length
        · obtain ⟨hgo, hyl⟩ := yg hlt
          refine .inr ⟨hgo, fun σ3 H3 => ∃ e3 o3, Rep K ca B H0 H3 σ3 e3 o3 ∧ Stp (okN e1 o1) H1 (okN e3 o3) H3 ∧ forE C g tb u D' (xs.drop (i + 1)) e3, fun σ3 H3 ⟨e3, o3, R3, s3, q3⟩ => ⟨m - 1, by omega, e3, o3, R3, s3, by omega, hlt, q3⟩, fun v H3 hv => ?_⟩
          obtain ⟨sm, d, hd, hdv⟩ := hyl v H3 hv
          rw [drop_cons hd] at q2
          refine ⟨e2, o2, d, _, R2.grow sm, hdv, q2.2, fun e3 q3 σ3 H4 o3 R3 s3 _ _ => ⟨e3, o3, _, R3, q3, ?_⟩⟩
          have st : Stp (okN e1 o1) H1 (okN e3 o3) H4 := (s2.trans (Stp.same sm)).trans s3
          exact ⟨fun e4 q4 σ4 H5 o4 R4 s4 => ⟨e4, o4, R4, st.trans s4, q4⟩, en.2.1, fun e4 q4 σ4 H5 o4 R4 s4 => en.1 e4 q4 σ4 H5 o4 R4 ((s1.trans st).trans s4), fun e4 q4 σ4 H5 o4 R4 s4 => ⟨e4, o4, R4, st.trans s4, q4⟩⟩
        · have hx : xs.drop i = [] := List.drop_of_length_le (by omega)
          rw [hx] at q2
          exact .inl ⟨ys (by omega), e2, o2, D', R2, q2.2, en.from (s1.trans s2)⟩⟩⟩
theorem ds_forE {body orelse : List Stmt} (hp : PassesOwn (model X.prog X.w) X.A X.env X.xe) (hc : X.calm = true) (hi : DI X ca H0 false y x src) (hg : DG X ca H0 y ss g) (hb : DSs X ca H0 body tb) (ho : DSs X ca H0 orelse u) (hs : ∀ v, foldedSetIterable x X.env v = pure v := by intro _; rfl) :
    DSt X ca H0 (.For y x body orelse pos) (dForE src g tb u) := ⟨fun B => ps_imp (ps_forE hp hc (hi.pi B) (hg.pg B) (hb.ps B) (ho.ps B) hs) ls_forE⟩
end

/-! ### sources -/
/-- the items of what is walked -/
def itemsOf : D → Option (List D)
  | .lst xs => some xs
  | .klst xs => some xs
  | .tup xs => some xs
  | .str z => if z.cps.size ≤ sizeLine then some (z.cps.toList.map fun c => D.str ⟨#[c]⟩) else none
  | _ => none
/-- a list, a tuple, a text -/
def iSeqD (te : TD) : TDI := fun e Q => te e fun d e' => ∃ xs, itemsOf d = some xs ∧ Q xs (fun _ => True) e'
/-- .. that is a slot's own list, perhaps -/
def iSeqO (te : TDO) : TDI := fun e Q => te e fun a e' => ∃ d xs, look e' a = some d ∧ itemsOf d = some xs ∧ Q xs (fun e => look e a = some d) e'
def iRange1 (t : TDA) : TDI := fun e Q => t e fun as e' => ∃ j : Int, lookL e' as = some [.int j] ∧ -(2 ^ 62) ≤ j ∧ j ≤ 16777216 ∧ Q ((List.range j.toNat).map fun i : Nat => D.int i) (fun _ => True) e'
def iRange2 (t : TDA) : TDI := fun e Q => t e fun as e' => ∃ i j : Int, lookL e' as = some [.int i, .int j] ∧ (-(2 ^ 62) ≤ i ∧ i < 2 ^ 62 ∧ -(2 ^ 62) ≤ j ∧ j < 2 ^ 62) ∧ j - i ≤ 16777216 ∧ Q ((List.range (j - i).toNat).map fun k : Nat => D.int (i + k)) (fun _ => True) e'
def seqD : D → Option (List D)
  | .lst xs => some xs
  | .klst xs => some xs
  | .tup xs => some xs
  | _ => none
def isLst : D → Bool
  | .lst _ => true
  | .klst _ => true
  | _ => false
/-- for enumerate and zip the operands are shared -/
def enumOf (xs : List D) : List D := (xs.zip (List.range xs.length)).map fun p : D × Nat => D.tup [.int p.2, p.1]
def zipOf (xs ys : List D) : List D := (xs.zip ys).map fun p => D.tup [p.1, p.2]
def iEnumD (t : TDF) : TDI := fun e Q => t e fun ds e' => ∃ d xs, ds = [d] ∧ seqD d = some xs ∧ Q (enumOf xs) (fun _ => True) e'
def iZipD (t : TDF) : TDI := fun e Q => t e fun ds e' => ∃ d1 d2 xs ys, ds = [d1, d2] ∧ seqD d1 = some xs ∧ seqD d2 = some ys ∧ Q (zipOf xs ys) (fun _ => True) e'
section
variable {X : Cx} {ca : Str → Addr} {H0 : Hp} {x y z tg : Expr} {pos p : Pos}
theorem DI.fix {src : TDI} (h : DI X ca H0 false tg x src) : DI X ca H0 true tg x src := ⟨fun B => pi_imp (h.pi B) fun σ H Q ⟨e, o, Q', R, q, imp⟩ => ⟨e, o, Q', R, q, fun xs C e1 q1 J H1 o1 R1 s1 hy => imp xs C e1 q1 J H1 o1 R1 s1 fun B' i σ2 H2 e2 o2 R2 s2 c2 _ => hy B' i σ2 H2 e2 o2 R2 s2 c2 fun τ hτ => by cases hτ⟩⟩
section
variable {K : PySem.W.Frag} {B : Addr → Prop} {H : Hp} {e : DEnv} {o : Nat → Addr} {a : Addr} {vs : List V} {xs : List D} {d : D}
theorem yl_list {σ0 : Option L2.St} (h : Dv K ca H (okA B e o) d (.ref a)) (hx : lsD d = some xs) : Yields K ca H0 (okA B e o) H σ0 (Itl K a) xs (fun _ => True) := fun B' i σ H' e' o' R st _ _ => by
  obtain ⟨p, vs, e1, h1, h2⟩ := DvW.ls (.of (Dv.mono st _ _ h)) hx
  cases e1
  refine ⟨fun hi => ⟨vs, h1, by rw [← h2.length]; exact Nat.le_of_eq hi.symm⟩, fun hi => ?_⟩
  have hv : i < vs.length := by rw [← h2.length]; exact hi
  refine ⟨⟨vs, vs[i], h1, List.getElem?_eq_getElem hv⟩, fun v H'' ⟨e2, hy⟩ => ?_⟩
  subst e2
  obtain ⟨d, e3, h3⟩ := h2.getV (hy vs h1)
  exact ⟨Same.refl _, d, e3, h3⟩
theorem yl_tup {σ0 : Option L2.St} (h : Dv K ca H (okA B e o) (.tup xs) (.ref a)) : Yields K ca H0 (okA B e o) H σ0 (Itt K a) xs (fun _ => True) := fun B' i σ H' e' o' R st _ _ => by
  obtain ⟨p, vs, e1, h1, h2⟩ := DvW.tup (.of (Dv.mono st _ _ h))
  cases e1
  refine ⟨fun hi => ⟨vs, h1, by rw [← h2.length]; exact Nat.le_of_eq hi.symm⟩, fun hi => ?_⟩
  have hv : i < vs.length := by rw [← h2.length]; exact hi
  refine ⟨⟨vs, vs[i], h1, List.getElem?_eq_getElem hv⟩, fun v H'' ⟨e2, hy⟩ => ?_⟩
  subst e2
  obtain ⟨d, e3, h3⟩ := h2.getV (hy vs h1)
  exact ⟨Same.refl _, d, e3, h3⟩
theorem yl_str {σ0 : Option L2.St} {z : Str} {C : DEnv → Prop} : Yields K ca H0 (okA B e o) H σ0 (Its z) (z.cps.toList.map fun c => D.str ⟨#[c]⟩) C := fun B' i σ H' e' o' R st _ _ => by
  refine ⟨fun hi => ?_, fun hi => ?_⟩
  · show z.cps.size ≤ i
    simp at hi
    omega
  · have hi' : i < z.cps.size := by simpa using hi
    refine ⟨hi', fun v H'' ⟨e2, c, hc, hv⟩ => ?_⟩
    subst e2 hv
    refine ⟨Same.refl _, D.str ⟨#[c]⟩, ?_, rfl⟩
    rw [List.getElem?_map]
    have : z.cps.toList[i]? = some c := by simpa using hc
    rw [this] <;> rfl
end
theorem di_seq {te : TD} (h : DE X ca H0 x te) : DI X ca H0 false tg x (iSeqD te) := ⟨fun B => pi_imp (pi_seq (h.pe B)) fun σ H Q ⟨e, o, Q', R, q, imp⟩ => ⟨e, o, _, R, q, fun d e1 ⟨xs, hx, q1⟩ v H1 o1 R1 s1 h1 => by
  cases d with
  | lst ys =>
    have e2 : ys = xs := Option.some.inj hx
    subst e2
    obtain ⟨p, vs, e3, h2, h3⟩ := DvW.ls (.of h1) (xs := ys) rfl
    subst e3
    exact .inl ⟨p, rfl, vs, h2, fun _ => imp _ _ e1 q1 _ H1 o1 R1 s1 (yl_list h1 rfl)⟩
  | klst ys =>
    have e2 : ys = xs := Option.some.inj hx
    subst e2
    obtain ⟨p, vs, e3, h2, h3⟩ := DvW.ls (.of h1) (xs := ys) rfl
    subst e3
    exact .inl ⟨p, rfl, vs, h2, fun _ => imp _ _ e1 q1 _ H1 o1 R1 s1 (yl_list h1 rfl)⟩
  | tup ys =>
    have e2 : ys = xs := Option.some.inj hx
    subst e2
    obtain ⟨p, vs, e3, h2, h3⟩ := DvW.tup (.of h1)
    subst e3
    exact .inr (.inl ⟨p, rfl, vs, h2, fun _ => imp _ _ e1 q1 _ H1 o1 R1 s1 (yl_tup h1)⟩)
  | str z =>
    have hx' : (if z.cps.size ≤ sizeLine then some (z.cps.toList.map fun c => D.str ⟨#[c]⟩) else none) = some xs := hx
    by_cases hz : z.cps.size ≤ sizeLine
    · rw [if_pos hz] at hx'
      have e2 := Option.some.inj hx'
      subst e2
      exact .inr (.inr ⟨z, h1, imp _ _ e1 q1 _ H1 o1 R1 s1 yl_str⟩)
    · rw [if_neg hz] at hx'
      cases hx'
  | _ => cases hx⟩⟩
theorem di_seqO {te : TDO} (h : DO X ca H0 x te) : DI X ca H0 true tg x (iSeqO te) := ⟨fun B => pi_imp (pi_seq (h.pe B)) fun σ H Q ⟨e, o, Q', R, q, imp⟩ => ⟨e, o, _, R, q, fun a e1 ⟨d, xs, hl, hx, q1⟩ v H1 o1 R1 s1 h1 => by
  have hw := R1.look h1 hl
  have key : ∀ (B' : Addr → Prop) (σ2 : L2.St) (H2 : Hp) (e2 : DEnv) (o2 : Nat → Addr), Rep X.K ca B' H0 H2 σ2 e2 o2 → Stp (okA B e1 o1) H1 (okA B' e2 o2) H2 → look e2 a = some d → (∀ (j : Nat) (v : V), σ2[j]? = some (some v) → σ[j]? = some (some v)) → DvW X.K ca H2 (okA B' e2 o2) d v := fun B' σ2 H2 e2 o2 R2 s2 l2 k2 => by
    cases a with
    | val d' => exact R2.look (a := .val d') (Dv.mono s2 _ _ h1) l2
    | slot j =>
      have h1' : σ[j]? = some (some v) := h1
      have l2' : (match e2[j]? with
        | some (.sh d) => some d
        | some (.ol xs) => some (.lst xs)
        | some (.ln xs) => some (.lst xs)
        | _ => none) = some d := l2
      cases q2 : e2[j]? with
      | none => rw [q2] at l2'; cases l2'
      | some z =>
        rw [q2] at l2'
        cases z with
        | sh d2 =>
          obtain ⟨w, e3, _⟩ := R2.sh j d2 q2
          have e4 := k2 j w e3
          rw [h1'] at e4
          have e5 : v = w := Option.some.inj (Option.some.inj e4)
          exact R2.look (a := .slot j) (by rw [e5]; exact e3) l2
        | ol ys =>
          obtain ⟨e3, _⟩ := R2.ol j ys q2
          have e4 := k2 j _ e3
          rw [h1'] at e4
          have e5 : v = .ref (o2 j) := Option.some.inj (Option.some.inj e4)
          exact R2.look (a := .slot j) (by rw [e5]; exact e3) l2
        | ln ys =>
          obtain ⟨p2, ws, e3, _⟩ := R2.lt j ys q2
          have e4 := k2 j _ e3
          rw [h1'] at e4
          have e5 : v = .ref p2 := Option.some.inj (Option.some.inj e4)
          exact R2.look (a := .slot j) (by rw [e5]; exact e3) l2
        | un => cases l2'
  cases d with
  | lst ys =>
    have e2 : ys = xs := Option.some.inj hx
    subst e2
    obtain ⟨p, vs, e3, h2, h3⟩ := hw.ls (xs := ys) rfl
    subst e3
    refine .inl ⟨p, rfl, vs, h2, fun _ => imp _ _ e1 q1 _ H1 o1 R1 s1 fun B' i σ2 H2 e2 o2 R2 s2 c2 k2 => ?_⟩
    obtain ⟨p', vs', e4, h4, h5⟩ := (key B' σ2 H2 e2 o2 R2 s2 c2 (k2 σ rfl)).ls (xs := ys) rfl
    cases e4
    refine ⟨fun hi => ⟨vs', h4, by rw [← h5.length]; exact Nat.le_of_eq hi.symm⟩, fun hi => ?_⟩
    have hv : i < vs'.length := by rw [← h5.length]; exact hi
    refine ⟨⟨vs', vs'[i], h4, List.getElem?_eq_getElem hv⟩, fun v H'' ⟨e2, hy⟩ => ?_⟩
    subst e2
    obtain ⟨d, e3, h6⟩ := h5.getV (hy vs' h4)
    exact ⟨Same.refl _, d, e3, h6⟩
  | klst ys =>
    have e2 : ys = xs := Option.some.inj hx
    subst e2
    obtain ⟨p, vs, e3, h2, h3⟩ := hw.ls (xs := ys) rfl
    subst e3
    refine .inl ⟨p, rfl, vs, h2, fun _ => imp _ _ e1 q1 _ H1 o1 R1 s1 fun B' i σ2 H2 e2 o2 R2 s2 c2 k2 => ?_⟩
    obtain ⟨p', vs', e4, h4, h5⟩ := (key B' σ2 H2 e2 o2 R2 s2 c2 (k2 σ rfl)).ls (xs := ys) rfl
    cases e4
    refine ⟨fun hi => ⟨vs', h4, by rw [← h5.length]; exact Nat.le_of_eq hi.symm⟩, fun hi => ?_⟩
    have hv : i < vs'.length := by rw [← h5.length]; exact hi
    refine ⟨⟨vs', vs'[i], h4, List.getElem?_eq_getElem hv⟩, fun v H'' ⟨e2, hy⟩ => ?_⟩
    subst e2
    obtain ⟨d, e3, h6⟩ := h5.getV (hy vs' h4)
    exact ⟨Same.refl _, d, e3, h6⟩
  | tup ys =>
    have e2 : ys = xs := Option.some.inj hx
    subst e2
    obtain ⟨p, vs, e3, h2, h3⟩ := hw.tup
    subst e3
    refine .inr (.inl ⟨p, rfl, vs, h2, fun _ => imp _ _ e1 q1 _ H1 o1 R1 s1 fun B' i σ2 H2 e2 o2 R2 s2 c2 k2 => ?_⟩)
    obtain ⟨p', vs', e4, h4, h5⟩ := (key B' σ2 H2 e2 o2 R2 s2 c2 (k2 σ rfl)).tup
    cases e4
    refine ⟨fun hi => ⟨vs', h4, by rw [← h5.length]; exact Nat.le_of_eq hi.symm⟩, fun hi => ?_⟩
    have hv : i < vs'.length := by rw [← h5.length]; exact hi
    refine ⟨⟨vs', vs'[i], h4, List.getElem?_eq_getElem hv⟩, fun v H'' ⟨e2, hy⟩ => ?_⟩
    subst e2
    obtain ⟨d, e3, h6⟩ := h5.getV (hy vs' h4)
    exact ⟨Same.refl _, d, e3, h6⟩
  | str z =>
    have hx' : (if z.cps.size ≤ sizeLine then some (z.cps.toList.map fun c => D.str ⟨#[c]⟩) else none) = some xs := hx
    by_cases hz : z.cps.size ≤ sizeLine
    · rw [if_pos hz] at hx'
      have e2 := Option.some.inj hx'
      subst e2
      exact .inr (.inr ⟨z, hw.str, imp _ _ e1 q1 _ H1 o1 R1 s1 yl_str⟩)
    · rw [if_neg hz] at hx'
      cases hx'
  | _ => cases hx⟩⟩
theorem yl_range {K : PySem.W.Frag} {B : Addr → Prop} {H : Hp} {e : DEnv} {o : Nat → Addr} {σ0 : Option L2.St} {lo : Int} {n : Nat} {C : DEnv → Prop} : Yields K ca H0 (okA B e o) H σ0 (Itr lo n) ((List.range n).map fun i : Nat => D.int (lo + i)) C := fun B' i σ H' e' o' R st _ _ => by
  refine ⟨fun hi => ?_, fun hi => ?_⟩
  · show n ≤ i
    simp at hi
    omega
  · have hi' : i < n := by simpa using hi
    refine ⟨hi', fun v H'' ⟨e2, hv⟩ => ?_⟩
    subst e2 hv
    exact ⟨Same.refl _, D.int (lo + i), by simp [hi'], rfl⟩
theorem di_range1 {t : TDA} (hg : Gl X "range") (hm : X.mg "range" = none) (ha : DAO X ca H0 [x] t) (hs : starEach [x] X.env = [(false, eval x X.env)] := by rfl) : DI X ca H0 false tg (.Call (.Name "range" p) [x] [] pos) (iRange1 t) :=
  ⟨fun B => pi_imp (pi_range1 hg hm (ha.pa B) hs) fun σ H Q ⟨e, o, Q', R, q, imp⟩ => ⟨e, o, _, R, q, fun as e1 ⟨j, hl, hj0, hj, q1⟩ vs H1 o1 R1 s1 h1 => by
    obtain ⟨v, r, e2, h2, h3⟩ := R1.lookL h1 hl
    have e3 : r = [] := h3
    have e4 := h2.int
    subst e3 e4
    refine ⟨j, e2, hj0, by omega, imp _ _ e1 q1 _ H1 o1 R1 s1 ?_⟩
    have e5 : ((List.range j.toNat).map fun i : Nat => D.int i) = (List.range j.toNat).map fun i : Nat => D.int (0 + i) := by simp
    rw [e5]
    exact yl_range⟩⟩
theorem di_range2 {t : TDA} (hg : Gl X "range") (hm : X.mg "range" = none) (ha : DAO X ca H0 [x, y] t) (hs : starEach [x, y] X.env = [(false, eval x X.env), (false, eval y X.env)] := by rfl) (hs2 : starEach [y] X.env = [(false, eval y X.env)] := by rfl) :
    DI X ca H0 false tg (.Call (.Name "range" p) [x, y] [] pos) (iRange2 t) :=
  ⟨fun B => pi_imp (pi_range2 hg hm (ha.pa B) hs hs2) fun σ H Q ⟨e, o, Q', R, q, imp⟩ => ⟨e, o, _, R, q, fun as e1 ⟨i, j, hl, hb, hj, q1⟩ vs H1 o1 R1 s1 h1 => by
    obtain ⟨v, r, e2, h2, w, r', e3, h3, h4⟩ := R1.lookL h1 hl
    have e5 : r' = [] := h4
    have e6 := h2.int
    have e7 := h3.int
    subst e5 e6 e7 e3
    exact ⟨i, j, e2, hb, imp _ _ e1 q1 _ H1 o1 R1 s1 yl_range⟩⟩⟩
section
variable {K : PySem.W.Frag} {B : Addr → Prop} {H : Hp} {e : DEnv} {o : Nat → Addr} {a b : Addr} {vs : List V} {xs ys : List D} {d d2 : D} {k : Addr → Prop}
theorem seqB {v : V} (h : Dv K ca H k d v) (hx : seqD d = some xs) : ∃ l p vs, v = .ref p ∧ SqB l K H p vs ∧ DvL K ca H k xs vs := by
  cases d with
  | lst ys =>
    obtain ⟨p, vs, e1, h1, h2⟩ := DvW.ls (.of h) hx
    exact ⟨true, p, vs, e1, h1, h2⟩
  | klst ys =>
    obtain ⟨p, vs, e1, h1, h2⟩ := DvW.ls (.of h) hx
    exact ⟨true, p, vs, e1, h1, h2⟩
  | tup ys =>
    have e2 : ys = xs := Option.some.inj hx
    subst e2
    obtain ⟨p, vs, e1, h1, h2⟩ := DvW.tup (.of h)
    exact ⟨false, p, vs, e1, h1, h2⟩
  | _ => cases hx
theorem seqB_at {l : Bool} {v : V} (hl : isLst d = l) (h : Dv K ca H k d v) (hx : seqD d = some xs) : ∃ p vs, v = .ref p ∧ SqB l K H p vs ∧ DvL K ca H k xs vs := by
  subst hl
  cases d with
  | lst ys => exact DvW.ls (.of h) hx
  | klst ys => exact DvW.ls (.of h) hx
  | tup ys =>
    have e2 : ys = xs := Option.some.inj hx
    subst e2
    exact DvW.tup (.of h)
  | _ => cases hx
theorem yl_enum {σ0 : Option L2.St} (h : Dv K ca H (okA B e o) d (.ref a)) (hx : seqD d = some xs) : Yields K ca H0 (okA B e o) H σ0 (IteM (isLst d) K a) (enumOf xs) (fun _ => True) := fun B' i σ H' e' o' R st _ _ => by
  obtain ⟨p, vs, e1, h1, h2⟩ := seqB_at rfl (Dv.mono st _ _ h) hx
  cases e1
  have hlen : (enumOf xs).length = xs.length := by unfold enumOf; simp
  refine ⟨fun hi => ⟨vs, h1, by rw [← h2.length, ← hlen]; exact hi⟩, fun hi => ?_⟩
  have hv : i < vs.length := by rw [← h2.length, ← hlen]; exact hi
  have hi2 : i < xs.length := by rw [← hlen]; exact hi
  refine ⟨⟨vs, vs[i], h1, List.getElem?_eq_getElem hv⟩, fun v H'' ⟨T, x, ev, hT, eH, hy⟩ => ?_⟩
  subst ev eH
  obtain ⟨d', e3, h3⟩ := h2.getV (hy vs h1)
  refine ⟨same_new hT, .tup [.int (i : Nat), d'], ?_, T, _, rfl, .inl ⟨R.new hT, .inl upd_same⟩, .cons rfl (.cons (Dv.mono (Stp.same (same_new hT)) _ _ h3) .nil)⟩
  unfold enumOf
  rw [List.getElem?_map, (List.getElem?_zip_eq_some (z := (d', i))).mpr ⟨e3, by simp [hi2]⟩] <;> rfl
theorem yl_zip {σ0 : Option L2.St} (h : Dv K ca H (okA B e o) d (.ref a)) (hx : seqD d = some xs) (h2 : Dv K ca H (okA B e o) d2 (.ref b)) (hy : seqD d2 = some ys) :
    Yields K ca H0 (okA B e o) H σ0 (ItzM (isLst d) (isLst d2) K a b) (zipOf xs ys) (fun _ => True) := fun B' i σ H' e' o' R st _ _ => by
  obtain ⟨p, vs, e1, g1, g2⟩ := seqB_at rfl (Dv.mono st _ _ h) hx
  obtain ⟨p', ws, e1', g3, g4⟩ := seqB_at rfl (Dv.mono st _ _ h2) hy
  cases e1
  cases e1'
  have hlen : (zipOf xs ys).length = min xs.length ys.length := by unfold zipOf; simp
  have l1 := g2.length
  have l2 := g4.length
  refine ⟨fun hi => ⟨vs, ws, g1, g3, by omega, by omega, by omega⟩, fun hi => ?_⟩
  have hv : i < vs.length := by omega
  have hw : i < ws.length := by omega
  refine ⟨⟨vs, ws, vs[i], ws[i], g1, g3, List.getElem?_eq_getElem hv, List.getElem?_eq_getElem hw⟩, fun v H'' ⟨T, x, y, ev, hT, eH, hy1, hy2⟩ => ?_⟩
  subst ev eH
  obtain ⟨d', e3, h3⟩ := g2.getV (hy1 vs g1)
  obtain ⟨d'', e4, h4⟩ := g4.getV (hy2 ws g3)
  refine ⟨same_new hT, .tup [d', d''], ?_, T, _, rfl, .inl ⟨R.new hT, .inl upd_same⟩, .cons (Dv.mono (Stp.same (same_new hT)) _ _ h3) (.cons (Dv.mono (Stp.same (same_new hT)) _ _ h4) .nil)⟩
  unfold zipOf
  rw [List.getElem?_map, (List.getElem?_zip_eq_some (z := (d', d''))).mpr ⟨e3, e4⟩] <;> rfl
end
theorem di_enum {t : TDF} {elts : List Expr} {kk : Nat} {tpos : Pos} (hg : Gl X "enumerate") (hm : X.mg "enumerate" = none) (ha : DA X ca H0 [x] t) (hs : starEach [x] X.env = [(false, eval x X.env)] := by rfl) :
    DI X ca H0 false (.Tuple elts kk tpos) (.Call (.Name "enumerate" p) [x] [] pos) (iEnumD t) :=
  ⟨fun B => pi_imp (pi_enumM hg hm (ha.pa B) hs) fun σ H Q ⟨e, o, Q', R, q, imp⟩ => ⟨e, o, _, R, q, fun ds e1 ⟨d, xs, hd, hx, q1⟩ vs H1 o1 R1 s1 h1 => by
    subst hd
    obtain ⟨v, r, e2, h2, h3⟩ := h1
    have e3 : r = [] := h3
    subst e3
    obtain ⟨p, ws, e4, g1, g2⟩ := seqB_at rfl h2 hx
    subst e4
    exact ⟨p, ws, _, e2, g1, fun _ => imp _ _ e1 q1 _ H1 o1 R1 s1 (yl_enum h2 hx)⟩⟩⟩
theorem di_zip {t : TDF} {elts : List Expr} {kk : Nat} {tpos : Pos} (hg : Gl X "zip") (hm : X.mg "zip" = none) (ha : DA X ca H0 [x, y] t) (hs : starEach [x, y] X.env = (false, eval x X.env) :: starEach [y] X.env := by rfl) (hpl : (backTo pos (starEach [y] X.env)).any (·.1) = false := by rfl) :
    DI X ca H0 false (.Tuple elts kk tpos) (.Call (.Name "zip" p) [x, y] [] pos) (iZipD t) :=
  ⟨fun B => pi_imp (pi_zipM hg hm (ha.pa B) hs hpl) fun σ H Q ⟨e, o, Q', R, q, imp⟩ => ⟨e, o, _, R, q, fun ds e1 ⟨d, d2, xs, ys, hd, hx, hy, q1⟩ vs H1 o1 R1 s1 h1 => by
    subst hd
    obtain ⟨v, r, e2, h2, v', r', e2', h2', h3⟩ := h1
    have e3 : r' = [] := h3
    subst e3 e2'
    obtain ⟨p, ws, e4, g1, g2⟩ := seqB_at rfl h2 hx
    obtain ⟨p', ws', e4', g1', g2'⟩ := seqB_at rfl h2' hy
    subst e4 e4'
    exact ⟨p, p', ws, ws', _, _, e2, g1, g1', fun _ _ => imp _ _ e1 q1 _ H1 o1 R1 s1 (yl_zip h2 hx h2' hy)⟩⟩⟩
end
end DL
set_option Elab.async false
set_option linter.all false
set_option maxRecDepth 100000
set_option maxHeartbeats 4000000
/-! DK: comprehensions -/
namespace DL
open PySem PySem.Spec L2

def wipeE (e : DEnv) : List Nat → DEnv
  | [] => e
  | v :: vs => (wipeE e vs).set v .un
section
variable {K : PySem.W.Frag} {ca : Str → Addr} {B : Addr → Prop} {H0 H : Hp} {σ τ : L2.St} {e : DEnv} {o : Nat → Addr}
theorem wipeE_length : ∀ (vs : List Nat), (wipeE e vs).length = e.length
  | [] => rfl
  | v :: vs => by
    show ((wipeE e vs).set v .un).length = e.length
    rw [List.length_set, wipeE_length vs]
theorem wipeE_get : ∀ {vs : List Nat} {i : Nat} {x : Ent}, (wipeE e vs)[i]? = some x → x ≠ .un → e[i]? = some x ∧ i ∉ vs
  | [], i, x, h, _ => ⟨h, by simp⟩
  | v :: vs, i, x, h, hx => by
    have h1 : ((wipeE e vs).set v .un)[i]? = some x := h
    by_cases hi : v = i
    · subst hi
      by_cases hl : v < (wipeE e vs).length
      · rw [get_set_self hl] at h1
        exact absurd (Option.some.inj h1).symm hx
      · rw [List.getElem?_eq_none (by simpa using hl)] at h1
        cases h1
    · rw [List.getElem?_set_ne hi] at h1
      obtain ⟨a, b⟩ := wipeE_get h1 hx
      exact ⟨a, fun z => (List.mem_cons.mp z).elim (fun q => hi q.symm) b⟩
theorem wipe_in : ∀ {vs : List Nat} {i : Nat}, i ∈ vs → i < σ.length → (wipe σ vs)[i]? = some none
  | v :: vs, i, h, hl => by
    show ((wipe σ vs).set v none)[i]? = some none
    by_cases hi : v = i
    · subst hi
      exact get_set_self (by rw [wipe_length]; exact hl)
    · rw [List.getElem?_set_ne hi]
      exact wipe_in ((List.mem_cons.mp h).resolve_left fun z => hi z.symm) hl
theorem wipe_eq {vs ss : List Nat} (hl : τ.length = (wipe σ vs).length) (h : ∀ j, j ∉ ss → τ[j]? = (wipe σ vs)[j]?) (hs : ∀ j ∈ ss, j ∈ vs) : wipe τ vs = wipe σ vs := by
  have hl' : τ.length = σ.length := by rw [hl, wipe_length]
  apply List.ext_getElem?
  intro i
  by_cases hi : i ∈ vs
  · by_cases hlt : i < σ.length
    · rw [wipe_in hi hlt, wipe_in hi (by rw [hl']; exact hlt)]
    · rw [List.getElem?_eq_none (by rw [wipe_length, hl']; omega), List.getElem?_eq_none (by rw [wipe_length]; omega)]
  · rw [wipe_out hi]
    exact h i fun z => hi (hs i z)
theorem okN_wipe (vs : List Nat) : ∀ b, okN e o b → okN (wipeE e vs) o b := fun b z j xs hj => z j xs (wipeE_get hj fun q => nomatch q).1
theorem okA_wipe (vs : List Nat) : ∀ b, okA B e o b → okA B (wipeE e vs) o b := fun b z => ⟨z.1, okN_wipe vs b z.2⟩
theorem Rep.wipe (R : Rep K ca B H0 H σ e o) (vs : List Nat) : Rep K ca B H0 H (L2.wipe σ vs) (wipeE e vs) o where
  sh := fun i d hi => by
    obtain ⟨h1, h2⟩ := wipeE_get hi fun q => nomatch q
    obtain ⟨v, e1, h⟩ := R.sh i d h1
    exact ⟨v, by rw [wipe_out h2]; exact e1, Dv.mono (Stp.weak (okA_wipe vs)) _ _ h⟩
  ol := fun i xs hi => by
    obtain ⟨h1, h2⟩ := wipeE_get hi fun q => nomatch q
    obtain ⟨e1, ws, e2, h⟩ := R.ol i xs h1
    exact ⟨by rw [wipe_out h2]; exact e1, ws, e2, DvL.mono (Stp.weak (okA_wipe vs)) _ _ h⟩
  ne := fun i j xs ys hi hj => R.ne i j xs ys (wipeE_get hi fun q => nomatch q).1 (wipeE_get hj fun q => nomatch q).1
  fr := fun i xs hi => R.fr i xs (wipeE_get hi fun q => nomatch q).1
  nb := fun i xs hi => R.nb i xs (wipeE_get hi fun q => nomatch q).1
  sm := R.sm
  bd := R.bd
  ln := by rw [wipeE_length, wipe_length]; exact R.ln
  lt := fun i xs hi => by
    obtain ⟨h1, h2⟩ := wipeE_get hi fun q => nomatch q
    obtain ⟨q, ws, e1, e2, h⟩ := R.lt i xs h1
    exact ⟨q, ws, by rw [wipe_out h2]; exact e1, e2, DvL.mono (Stp.weak (okA_wipe vs)) _ _ h⟩
theorem Rep.unwipe {vs : List Nat} (R : Rep K ca B H0 H (L2.wipe σ vs) e o) : Rep K ca B H0 H σ e o where
  sh := fun i d hi => let ⟨v, e1, h⟩ := R.sh i d hi; ⟨v, (wipe_some e1).1, h⟩
  ol := fun i xs hi => let ⟨e1, h⟩ := R.ol i xs hi; ⟨(wipe_some e1).1, h⟩
  ne := R.ne
  fr := R.fr
  nb := R.nb
  sm := R.sm
  bd := R.bd
  ln := by have := R.ln; rw [wipe_length] at this; exact this
  lt := fun i xs hi => let ⟨q, ws, e1, h⟩ := R.lt i xs hi; ⟨q, ws, (wipe_some e1).1, h⟩
end
def lcL (C : DEnv → Prop) (vs : List Nat) (g : TDG) (tt : TDT) (te : TD) (Q : List D → DEnv → Prop) : List D → List D → DEnv → Prop
  | [], acc, e => C e ∧ Q acc e
  | x :: r, acc, e => C e ∧ g x e fun e1 => tt e1 fun b e2 => if b = true then te e2 fun y e3 => lcL C vs g tt te Q r (acc ++ [y]) (wipeE e3 vs) else lcL C vs g tt te Q r acc (wipeE e2 vs)
/-- [te for g in src if tt], vs: the block's own slots -/
def fLc (src : TDI) (vs : List Nat) (g : TDG) (tt : TDT) (te : TD) : TDF := fun e Q => src e fun xs C e1 => xs.length ≤ sizeLine ∧ lcL C vs g tt te Q xs [] (wipeE e1 vs)
def dYes : TDT := fun e Q => Q true e
structure DTs (X : Cx) (ca : Str → Addr) (H0 : Hp) (x : List Expr) (t : TDT) : Prop where
  pts : ∀ B, PTs X x (LT X.K ca H0 B t)
theorem pe_ex {X : Cx} {e : Expr} {t : (Addr → Prop) → TE} (h : ∀ B, PE X e (t B)) : PE X e (fun σ H Q => ∃ B, t B σ H Q) := ⟨fun pins s σ H Q I ⟨B, q⟩ => (h B).run pins s σ H Q I q⟩
theorem pts_ex {X : Cx} {e : List Expr} {t : (Addr → Prop) → TT} (h : ∀ B, PTs X e (t B)) : PTs X e (fun σ H Q => ∃ B, t B σ H Q) := ⟨fun pins s σ H Q I ⟨B, q⟩ => (h B).run pins s σ H Q I q⟩
theorem pg_ex {X : Cx} {e : Expr} {t : (Addr → Prop) → TG} (h : ∀ B, PG X e (t B)) : PG X e (fun v σ H Q => ∃ B, t B v σ H Q) := ⟨fun pins s σ H v u Q I r ⟨B, q⟩ => (h B).run pins s σ H v u Q I r q⟩
theorem pts_imp {X : Cx} {e : List Expr} {t t' : TT} (h : PTs X e t) (w : ∀ σ H Q, t' σ H Q → t σ H Q) : PTs X e t' := ⟨fun pins s σ H Q I q => h.run pins s σ H Q I (w σ H Q q)⟩
section
variable {X : Cx} {ca : Str → Addr} {H0 : Hp} {x y z tg iter elt : Expr} {pos p : Pos}
theorem dts_nil : DTs X ca H0 [] dYes := ⟨fun B => pts_imp pts_nil fun σ H Q ⟨e, o, Q', R, q, imp⟩ => imp true e q H o R Stp.refl⟩
theorem dts_one {t : TDT} (h : DT X ca H0 x t) : DTs X ca H0 [x] t := ⟨fun B => pts_one (h.pt B)⟩
theorem lcL_C {C : DEnv → Prop} {vs : List Nat} {g : TDG} {tt : TDT} {te : TD} {Q : List D → DEnv → Prop} : ∀ {xs acc : List D} {e : DEnv}, lcL C vs g tt te Q xs acc e → C e
  | [], _, _, h => h.1
  | _ :: _, _, _, h => h.1
theorem lf_lc {K : PySem.W.Frag} {B : Addr → Prop} {src : TDI} {vs ss : List Nat} {g : TDG} {tt : TDT} {te : TD} (hss : ∀ j ∈ ss, j ∈ vs) : ∀ σ H Q, LF K ca H0 B (fLc src vs g tt te) σ H Q →
    tLc (LI K ca H0 B true src) (fun v σ H Q => ∃ B, LG K ca H0 B ss g v σ H Q) (fun σ H Q => ∃ B, LT K ca H0 B tt σ H Q) (fun σ H Q => ∃ B, LE K ca H0 B te σ H Q) vs σ H Q := fun σ H Q ⟨e, o, Q', R, q, imp⟩ =>
  ⟨e, o, _, R, q, fun xs C e1 ⟨hz, q1⟩ J H1 o1 R1 s1 hy => fun D hD => by
    have R1' : Rep K ca (fun b => B b ∨ b = D) H0 (upd H1 D (.lst [])) (wipe σ vs) (wipeE e1 vs) o1 := (R1.shut hD).wipe vs
    have s1' : Stp (okN e1 o1) H1 (okN (wipeE e1 vs) o1) (upd H1 D (.lst [])) := (Stp.same (same_new hD)).trans (Stp.weak (okN_wipe vs))
    refine ⟨fun i m H2 => ∃ e2 o2 acc accV, Rep K ca (fun b => B b ∨ b = D) H0 H2 (wipe σ vs) e2 o2 ∧ Stp (okN e1 o1) H1 (okN e2 o2) H2 ∧ H2 D = some (.lst accV) ∧ DvL K ca H2 (okA (fun b => B b ∨ b = D) e2 o2) acc accV ∧
      m = xs.length - i ∧ i ≤ xs.length ∧ acc.length ≤ i ∧ lcL C vs g tt te Q' (xs.drop i) acc e2, ⟨xs.length, _, o1, [], [], R1', s1', upd_same, rfl, rfl, Nat.zero_le _, Nat.le_refl _, q1⟩, fun i m H2 ⟨e2, o2, acc, accV, R2, s2, hD2, hacc, hm, hi, hai, q2⟩ => ?_⟩
    have hB : ∀ b u, H1 b = some u → ¬ B b → ¬ (B b ∨ b = D) := fun b u hb hn z => z.elim hn (ne_of_none hb hD)
    obtain ⟨ys, yg⟩ := hy _ i (wipe σ vs) H2 e2 o2 R2 (s2.ab hB) (lcL_C q2) (fun τ hτ j v hv => by
      have e3 : σ = τ := Option.some.inj hτ
      subst e3
      exact (wipe_some hv).1)
    by_cases hlt : i < xs.length
    · obtain ⟨hgo, hyl⟩ := yg hlt
      refine .inr ⟨hgo, fun H3 => ∃ e3 o3 acc accV, Rep K ca (fun b => B b ∨ b = D) H0 H3 (wipe σ vs) e3 o3 ∧ Stp (okN e1 o1) H1 (okN e3 o3) H3 ∧ H3 D = some (.lst accV) ∧ DvL K ca H3 (okA (fun b => B b ∨ b = D) e3 o3) acc accV ∧
        acc.length ≤ i + 1 ∧ lcL C vs g tt te Q' (xs.drop (i + 1)) acc e3, fun H3 ⟨e3, o3, acc3, accV3, R3, s3, hD3, hacc3, hai3, q3⟩ => ⟨m - 1, by omega, e3, o3, acc3, accV3, R3, s3, hD3, hacc3, by omega, hlt, hai3, q3⟩, fun v H3 hv => ?_⟩
      obtain ⟨sm, d, hd, hdv⟩ := hyl v H3 hv
      rw [drop_cons hd] at q2
      refine ⟨_, e2, o2, d, _, R2.grow sm, hdv, q2.2, fun e3 q3 σ3 H4 o3 R3 s3 hl3 hk3 => ?_⟩
      have hw : wipe σ3 vs = wipe σ vs := wipe_eq hl3 hk3 hss
      refine ⟨hw, _, e3, o3, _, R3, q3, fun b e4 q4 H5 o4 R4 s4 => ?_⟩
      have st : Stp (okN e2 o2) H2 (okN e4 o4) H5 := ((Stp.same sm).trans s3).trans s4
      have hDn : okN e2 o2 D := fun j ys hj z => R2.nb j ys hj (.inr z)
      cases b with
      | false =>
        exact ⟨wipeE e4 vs, o4, acc, accV, by rw [← hw]; exact R4.wipe vs, (s2.trans st).trans (Stp.weak (okN_wipe vs)), (st D _ hDn hD2).2, DvL.mono (st.a.trans (Stp.weak (okA_wipe vs))) _ _ hacc, by omega, q4⟩
      | true =>
        refine ⟨_, e4, o4, _, R4, q4, fun dy e5 q5 vy H6 o5 R5 s5 hvy => ?_⟩
        have st2 := st.trans s5
        have hD5 := (st2 D _ hDn hD2).2
        refine ⟨accV, hD5, by rw [← hacc.length]; omega, ?_⟩
        -- the new list grows: nothing else sees it
        have grow : ∀ b, okA (fun b => B b ∨ b = D) e5 o5 b → upd H6 D (.lst (accV ++ [vy])) b = H6 b := fun b hb => upd_ne fun z => hb.1 (.inr z)
        have sA : Stp (okA (fun b => B b ∨ b = D) e5 o5) H6 (okA (fun b => B b ∨ b = D) e5 o5) (upd H6 D (.lst (accV ++ [vy]))) := fun b u hb hu => ⟨hb, by rw [grow b hb]; exact hu⟩
        have R6 : Rep K ca (fun b => B b ∨ b = D) H0 (upd H6 D (.lst (accV ++ [vy]))) σ3 e5 o5 :=
          { sh := fun j x hj => let ⟨v, e6, h6⟩ := R5.sh j x hj; ⟨v, e6, Dv.mono sA _ _ h6⟩
            ol := fun j ys hj => by
              obtain ⟨e6, ws, e7, h7⟩ := R5.ol j ys hj
              exact ⟨e6, ws, by rw [upd_ne fun z => R5.nb j ys hj (.inr z)]; exact e7, DvL.mono sA _ _ h7⟩
            ne := R5.ne
            fr := R5.fr
            nb := R5.nb
            sm := fun b u hb => by
              have hne : b ≠ D := ne_of_none (R1.sm b u hb) hD
              rw [upd_ne hne]
              exact R5.sm b u hb
            bd := fun b hb z => by
              by_cases hbD : b = D
              · rw [hbD, upd_same] at z
                cases z
              · rw [upd_ne hbD] at z
                exact R5.bd b hb z
            ln := R5.ln
            lt := fun j ys hj => let ⟨q, ws, e6, e7, h7⟩ := R5.lt j ys hj; ⟨q, ws, e6, e7, DvL.mono sA _ _ h7⟩ }
        have sN : Stp (okN e1 o1) H1 (okN e5 o5) (upd H6 D (.lst (accV ++ [vy]))) := fun b u hb hu => by
          obtain ⟨a1, a2⟩ := (s2.trans st2) b u hb hu
          exact ⟨a1, by rw [upd_ne (ne_of_none hu hD)]; exact a2⟩
        refine ⟨wipeE e5 vs, o5, acc ++ [dy], accV ++ [vy], by rw [← hw]; exact R6.wipe vs, sN.trans (Stp.weak (okN_wipe vs)), upd_same, ?_, by simp; omega, q5⟩
        exact DvL.append (DvL.mono ((st2.a.trans sA).trans (Stp.weak (okA_wipe vs))) _ _ hacc) (.cons (Dv.mono (sA.trans (Stp.weak (okA_wipe vs))) _ _ hvy) .nil)
    · have hx : xs.drop i = [] := List.drop_of_length_le (by omega)
      rw [hx] at q2
      refine .inl ⟨ys (by omega), imp acc e2 q2.2 D accV H2 o2 R2.unwipe (s1.trans s2) hD2 (fun b u hb hu => ne_of_none (s1 b u hb hu).2 hD) (R1.fr0 hD) (R1.nB hD) (fun j ys hj z => R2.nb j ys hj (.inr z)) hacc⟩⟩
/-- as a new list -/
theorem df_lc {src : TDI} {ss : List Nat} {g : TDG} {tt : TDT} {te : TD} {ifs : List Expr} {scope : Scope} {own : List (Str × Nat)} (hc : X.calm = true) (hN : X.N.Nodup) (hi : DI X ca H0 true tg iter src) (ok : BlkOk X.N X.env.scope scope own)
    (hg : ∀ (s : Shared) (H : Hp) (C : Addr) (cl : List (Str × Addr)) (fp : List Addr), DG (X.blk s H scope (compEnvC scope cl C X.env) fp) ca H0 tg ss g)
    (ht : ∀ (s : Shared) (H : Hp) (C : Addr) (cl : List (Str × Addr)) (fp : List Addr), DTs (X.blk s H scope (compEnvC scope cl C X.env) fp) ca H0 ifs tt)
    (he : ∀ (s : Shared) (H : Hp) (C : Addr) (cl : List (Str × Addr)) (fp : List Addr), DE (X.blk s H scope (compEnvC scope cl C X.env) fp) ca H0 elt te)
    (hss : ∀ j ∈ ss, j ∈ own.map (·.2) := by decide) (hs : ∀ v, foldedSetIterable iter X.env v = pure v := by intro _; rfl) : DF X ca H0 (.ListComp elt [⟨tg, iter, ifs, 0⟩] scope pos) (fLc src (own.map (·.2)) g tt te) :=
  ⟨fun B => pe_imp (pe_lc hc hN (hi.pi B) ok (fun s H C cl fp => pg_ex (hg s H C cl fp).pg) (fun s H C cl fp => pts_ex (ht s H C cl fp).pts) (fun s H C cl fp => pe_ex (he s H C cl fp).pe) hs) (lf_lc hss)⟩
/-- name = [..] on one line -/
theorem ds_setLc {i : Nat} {n : Str} {py spos : Pos} {src : TDI} {ss : List Nat} {g : TDG} {tt : TDT} {te : TD} {ifs : List Expr} {scope : Scope} {own : List (Str × Nat)} (hc : X.calm = true) (hN : X.N.Nodup) (hy : X.N[i]? = some n) (hyl : X.env.scope.names.lookup n = some .local)
    (hsw : swapsWith (.ListComp elt [⟨tg, iter, ifs, 0⟩] scope pos) (some (.Name n py)) spos.line X.env = pure true) (hi : DI X ca H0 true tg iter src) (ok : BlkOk X.N X.env.scope scope own)
    (hg : ∀ (s : Shared) (H : Hp) (C : Addr) (cl : List (Str × Addr)) (fp : List Addr), DG (X.blk s H scope (compEnvC scope cl C X.env) fp) ca H0 tg ss g)
    (ht : ∀ (s : Shared) (H : Hp) (C : Addr) (cl : List (Str × Addr)) (fp : List Addr), DTs (X.blk s H scope (compEnvC scope cl C X.env) fp) ca H0 ifs tt)
    (he : ∀ (s : Shared) (H : Hp) (C : Addr) (cl : List (Str × Addr)) (fp : List Addr), DE (X.blk s H scope (compEnvC scope cl C X.env) fp) ca H0 elt te)
    (hss : ∀ j ∈ ss, j ∈ own.map (·.2) := by decide) (hs : ∀ v, foldedSetIterable iter X.env v = pure v := by intro _; rfl) :
    DSt X ca H0 (.Assign [.Name n py] (.ListComp elt [⟨tg, iter, ifs, 0⟩] scope pos) spos) (dAsg (dNew (fLc src (own.map (·.2)) g tt te)) (gN i)) :=
  ⟨fun B => ps_imp (ps_setLc hc hN hy hyl hsw (hi.pi B) ok (fun s H C cl fp => pg_ex (hg s H C cl fp).pg) (fun s H C cl fp => pts_ex (ht s H C cl fp).pts) (fun s H C cl fp => pe_ex (he s H C cl fp).pe) hs) fun D σ H ⟨e, o, D', R, q, en⟩ =>
    lf_lc (ss := ss) hss σ H _ ⟨e, o, _, R, q, fun xs e1 q1 p vs H1 o1 R1 s1 hp hs h0 hb hn hl => en.1 _ q1 _ H1 o1 ((R1.wide fun b z => .inl z).put ⟨p, vs, rfl, ⟨hb, hn⟩, hp, DvL.mono (Stp.weak okA_out) _ _ hl⟩) (s1.trans (Stp.weak okN_set))⟩⟩
/-- .. as its own -/
theorem ds_ownLc {i : Nat} {n : Str} {py spos : Pos} {src : TDI} {ss : List Nat} {g : TDG} {tt : TDT} {te : TD} {ifs : List Expr} {scope : Scope} {own : List (Str × Nat)} (hc : X.calm = true) (hN : X.N.Nodup) (hy : X.N[i]? = some n) (hyl : X.env.scope.names.lookup n = some .local)
    (hsw : swapsWith (.ListComp elt [⟨tg, iter, ifs, 0⟩] scope pos) (some (.Name n py)) spos.line X.env = pure true) (hi : DI X ca H0 true tg iter src) (ok : BlkOk X.N X.env.scope scope own)
    (hg : ∀ (s : Shared) (H : Hp) (C : Addr) (cl : List (Str × Addr)) (fp : List Addr), DG (X.blk s H scope (compEnvC scope cl C X.env) fp) ca H0 tg ss g)
    (ht : ∀ (s : Shared) (H : Hp) (C : Addr) (cl : List (Str × Addr)) (fp : List Addr), DTs (X.blk s H scope (compEnvC scope cl C X.env) fp) ca H0 ifs tt)
    (he : ∀ (s : Shared) (H : Hp) (C : Addr) (cl : List (Str × Addr)) (fp : List Addr), DE (X.blk s H scope (compEnvC scope cl C X.env) fp) ca H0 elt te)
    (hss : ∀ j ∈ ss, j ∈ own.map (·.2) := by decide) (hs : ∀ v, foldedSetIterable iter X.env v = pure v := by intro _; rfl) :
    DSt X ca H0 (.Assign [.Name n py] (.ListComp elt [⟨tg, iter, ifs, 0⟩] scope pos) spos) (dOwn (fLc src (own.map (·.2)) g tt te) i) :=
  ⟨fun B => ps_imp (ps_setLc hc hN hy hyl hsw (hi.pi B) ok (fun s H C cl fp => pg_ex (hg s H C cl fp).pg) (fun s H C cl fp => pts_ex (ht s H C cl fp).pts) (fun s H C cl fp => pe_ex (he s H C cl fp).pe) hs) fun D σ H ⟨e, o, D', R, q, en⟩ =>
    lf_lc (ss := ss) hss σ H _ ⟨e, o, _, R, q, fun xs e1 q1 p vs H1 o1 R1 s1 hp hs h0 hb hn hl =>
      en.1 _ q1.2 _ H1 _ (R1.own hp h0 hb hn hl (Nat.lt_of_lt_of_le q1.1 R1.ln)) fun b u hk hu => ⟨okN_own (s1 b u hk hu).1 (hs b u hk hu), (s1 b u hk hu).2⟩⟩⟩
end
end DL
set_option Elab.async false
set_option linter.all false
set_option maxRecDepth 100000
set_option maxHeartbeats 4000000
/-! DL: defs and their calls -/
namespace DL
open PySem PySem.Spec L2

/-- what is wanted of an exception, told of data -/
abbrev DXK := D → Prop
/-- a def's promise on data -/
abbrev DSp := List D → (D → Prop) → DXK → Prop
def DX0 : DXK := fun _ => False
def LSp (K : PySem.W.Frag) (ca : Str → Addr) (sp : DSp) : Sp := fun vs H Q _ => ∃ (B : Addr → Prop) (ds : List D) (Q' : D → Prop), (∀ b, B b → H b ≠ none) ∧ DvL K ca H (fun b => ¬ B b) ds vs ∧ sp ds Q' DX0 ∧
  ∀ d, Q' d → ∀ v H', Same H H' → Dv K ca H' (fun b => ¬ B b) d v → Q v H'
/-- what is called with shared data: a def, a class -/
def Cal (P : Program) (w : World) (K : PySem.W.Frag) (mg : Str → Option Value) (base : Heap) (ca : Str → Addr) (k : Nat) (f : Addr) (sp : DSp) : Prop :=
  PySem.W.keepIn K (.ref f) = true ∧ ∀ X : Cx, X.prog = P → X.w = w → X.K = K → X.mg = mg → X.base = base → Room k X.A → CallR X (.ref f) (fun vs H Q => LSp K ca sp vs H Q E0)
theorem Cal.of {P : Program} {w : World} {K : PySem.W.Frag} {mg : Str → Option Value} {base : Heap} {ca : Str → Addr} {k : Nat} {f : Addr} {sp : DSp} (hk : PySem.W.keepIn K (.ref f) = true) (F : FnR P w K mg base CX0 k f (LSp K ca sp)) : Cal P w K mg base ca k f sp :=
  ⟨hk, fun X e1 e2 e3 e4 e5 hr => by
    subst e1 e2 e3 e4 e5
    exact fun pins s σ H xs us Q I rv h => wpAny_call (run_fnR F hr pass0 I rv h)⟩
theorem Cal.mono {P : Program} {w : World} {K : PySem.W.Frag} {mg : Str → Option Value} {base : Heap} {ca : Str → Addr} {j k : Nat} {f : Addr} {sp : DSp} (c : Cal P w K mg base ca j f sp) (h : j ≤ k) : Cal P w K mg base ca k f sp :=
  ⟨c.1, fun X e1 e2 e3 e4 e5 hr => c.2 X e1 e2 e3 e4 e5 (hr.mono h)⟩
/-- a def or a class of the module, by name -/
def Df (P : Program) (w : World) (K : PySem.W.Frag) (mg : Str → Option Value) (base : Heap) (ca : Str → Addr) (k : Nat) (name : Str) (sp : DSp) : Prop :=
  ∃ f, mg name = some (.ref f) ∧ Cal P w K mg base ca k f sp
def dApp (sp : DSp) (t : TDF) : TD := fun e Q => t e fun ds e' => sp ds (fun d => Q d e') DX0
theorem not_okA {K : PySem.W.Frag} {ca : Str → Addr} {B : Addr → Prop} {H0 H : Hp} {σ : L2.St} {e : DEnv} {o : Nat → Addr} (R : Rep K ca B H0 H σ e o) : ∀ b, ¬ okA B e o b → H b ≠ none := fun b hn hz => hn (R.new hz)
theorem le_app {K : PySem.W.Frag} {ca : Str → Addr} {H0 : Hp} {B : Addr → Prop} {sp : DSp} {t : TDF} (E : XK) : ∀ σ H Q, LE K ca H0 B (dApp sp t) σ H Q → LA K ca H0 B t σ H fun vs H1 => LSp K ca sp vs H1 Q E := fun σ H Q ⟨e, o, Q', R, q, imp⟩ =>
  ⟨e, o, _, R, q, fun ds e1 q1 vs H1 o1 R1 s1 h1 => ⟨fun b => ¬ okA B e1 o1 b, ds, fun d => Q' d e1, not_okA R1, DvL.mono (Stp.weak fun b z => not_not_intro z) _ _ h1, q1, fun d qd v H2 s2 hv =>
    imp d e1 qd v H2 o1 (R1.grow s2) (s1.trans (Stp.same s2)) (Dv.mono (Stp.weak fun b z => Classical.not_not.mp z) _ _ hv)⟩⟩
section
variable {X : Cx} {ca : Str → Addr} {H0 : Hp} {x y : Expr} {es : List Expr} {p pos : Pos} {sp : DSp} {t : TDF} {k : Nat} {n : Str} {spH : Sp} {f : Addr} {E : XK} {ta : TA} {CX : CXT}
variable {r : List V → Hp → VK → Prop}
/-- the call of what a name of the module stands for -/
theorem pe_cG (hc : CallR X (.ref f) r) (hk : PySem.W.keepIn X.K (.ref f) = true) (hg : Gl X n) (hm : X.mg n = some (.ref f))
    (ha : PA X (x :: es) ta) (hdb : (n == ("__debug__" : Str)) = false := by decide) (he : starEach (x :: es) X.env = (false, eval x X.env) :: starEach es X.env := by rfl) (hpl : (backTo pos (starEach es X.env)).any (·.1) = false := by rfl) :
    PE X (.Call (.Name n p) (x :: es) [] pos) (fun σ H Q => ta σ H fun vs H1 => r vs H1 Q) := by
  refine ⟨fun pins s σ H Q I h => ?_⟩
  refine wpAny_Call_Name_kw (ld_glob I hg hm ?_ hdb)
  exact PySem.W.callWith_K (h₀ := X.base) I.ok.mod.kin hk (thn (ha.run pos pins s σ H _ I h) fun us s1 ⟨vs, H1, I1, rv, q⟩ => ⟨I1.kIn, hc pins s1 σ H1 vs us Q I1 rv q⟩) he hpl
theorem pe_cG0 (hc : CallR X (.ref f) r) (hk : PySem.W.keepIn X.K (.ref f) = true) (hg : Gl X n) (hm : X.mg n = some (.ref f)) (hdb : (n == ("__debug__" : Str)) = false := by decide) :
    PE X (.Call (.Name n p) [] [] pos) (fun σ H Q => r [] H Q) := by
  refine ⟨fun pins s σ H Q I h => ?_⟩
  refine wpAny_Call_Name_kw (ld_glob I hg hm ?_ hdb)
  exact PySem.W.callWith_K0 I.kIn hk (hc pins s σ H [] [] Q I .nil h)
theorem pe_cGS {te : TE} {sp_ : Pos} (hc : CallR X (.ref f) r) (hk : PySem.W.keepIn X.K (.ref f) = true) (hg : Gl X n) (hm : X.mg n = some (.ref f)) (he : PE X x te) (hdb : (n == ("__debug__" : Str)) = false := by decide)
    (hst : starEach [.Starred x sp_] X.env = [(true, eval x X.env)] := by rfl) :
    PE X (.Call (.Name n p) [.Starred x sp_] [] pos) (fun σ H Q => te σ H fun y H1 => ∃ a xs, y = V.ref a ∧ (SqT X.K H1 a xs ∨ SqL X.K H1 a xs) ∧ r xs H1 Q) := by
  refine ⟨fun pins s σ H Q I h => ?_⟩
  refine wpAny_Call_Name_kw (ld_glob I hg hm ?_ hdb)
  refine PySem.W.callWith_S (h₀ := X.base) I.ok.mod.kin hk (thn (he.run pins s σ H _ I h) fun v s1 ⟨y, H1, I1, ry, a, xs, ey, hxs, q⟩ => ?_) hst
  subst ey
  obtain rfl : v = Value.ref a := ry
  exact StX.star_any I1 hxs fun us s2 I2 rv => ⟨I2.kIn, hc pins s2 σ H1 xs us Q I2 rv q⟩
/-- .. of what a name of the frame stands for -/
theorem pe_cV {i : Nat} (hc : CallR X (.ref f) r) (hk : PySem.W.keepIn X.K (.ref f) = true) (hf : PE X (.Name n p) (tVar i))
    (ha : PA X (x :: es) ta) (he : starEach (x :: es) X.env = (false, eval x X.env) :: starEach es X.env := by rfl) (hpl : (backTo pos (starEach es X.env)).any (·.1) = false := by rfl) :
    PE X (.Call (.Name n p) (x :: es) [] pos) (fun σ H Q => σ[i]? = some (some (.ref f)) ∧ ta σ H fun vs H1 => r vs H1 Q) := by
  refine ⟨fun pins s σ H Q I h => ?_⟩
  refine wpAny_Call_Name_kw (thn (hf.run pins s σ H (fun v H1 => v = .ref f ∧ H1 = H) I ⟨_, h.1, rfl, rfl⟩) fun v s1 ⟨y, H1, I1, ry, ey, eH⟩ => ?_)
  subst ey eH
  obtain rfl : v = Value.ref f := ry
  exact PySem.W.callWith_K (h₀ := X.base) I1.ok.mod.kin hk (thn (ha.run pos pins s1 σ H1 _ I1 h.2) fun us s2 ⟨vs, H2, I2, rv, q⟩ => ⟨I2.kIn, hc pins s2 σ H2 vs us Q I2 rv q⟩) he hpl
theorem pe_cV0 {i : Nat} (hc : CallR X (.ref f) r) (hk : PySem.W.keepIn X.K (.ref f) = true) (hf : PE X (.Name n p) (tVar i)) :
    PE X (.Call (.Name n p) [] [] pos) (fun σ H Q => σ[i]? = some (some (.ref f)) ∧ r [] H Q) := by
  refine ⟨fun pins s σ H Q I h => ?_⟩
  refine wpAny_Call_Name_kw (thn (hf.run pins s σ H (fun v H1 => v = .ref f ∧ H1 = H) I ⟨_, h.1, rfl, rfl⟩) fun v s1 ⟨y, H1, I1, ry, ey, eH⟩ => ?_)
  subst ey eH
  obtain rfl : v = Value.ref f := ry
  exact PySem.W.callWith_K0 I1.kIn hk (hc pins s1 σ H1 [] [] Q I1 .nil h.2)
theorem pe_cVS {i : Nat} {te : TE} {sp_ : Pos} (hc : CallR X (.ref f) r) (hk : PySem.W.keepIn X.K (.ref f) = true) (hf : PE X (.Name n p) (tVar i)) (he : PE X x te)
    (hst : starEach [.Starred x sp_] X.env = [(true, eval x X.env)] := by rfl) :
    PE X (.Call (.Name n p) [.Starred x sp_] [] pos) (fun σ H Q => σ[i]? = some (some (.ref f)) ∧ te σ H fun y H1 => ∃ a xs, y = V.ref a ∧ (SqT X.K H1 a xs ∨ SqL X.K H1 a xs) ∧ r xs H1 Q) := by
  refine ⟨fun pins s σ H Q I h => ?_⟩
  refine wpAny_Call_Name_kw (thn (hf.run pins s σ H (fun v H1 => v = .ref f ∧ H1 = H) I ⟨_, h.1, rfl, rfl⟩) fun v s1 ⟨y, H1, I1, ry, ey, eH⟩ => ?_)
  subst ey eH
  obtain rfl : v = Value.ref f := ry
  refine PySem.W.callWith_S (h₀ := X.base) I1.ok.mod.kin hk (thn (he.run pins s1 σ H1 _ I1 h.2) fun v s2 ⟨y, H2, I2, ry, a, xs, ey, hxs, q⟩ => ?_) hst
  subst ey
  obtain rfl : v = Value.ref a := ry
  exact StX.star_any I2 hxs fun us s3 I3 rv => ⟨I3.kIn, hc pins s3 σ H2 xs us Q I3 rv q⟩
/-! of data -/
def dApp0 (sp : DSp) : TD := fun e Q => sp [] (fun d => Q d e) DX0
def dAppS (sp : DSp) (t : TDO) : TD := fun e Q => t e fun a e' => ∃ d xs, look e' a = some d ∧ seqD d = some xs ∧ sp xs (fun d => Q d e') DX0
/-- the callee: a class in a slot -/
def dIs (i : Nat) (c : Str) (t : TD) : TD := fun e Q => e[i]? = some (.sh (.cls c)) ∧ t e Q
theorem le_app0 {K : PySem.W.Frag} {B : Addr → Prop} (E : XK) : ∀ σ H Q, LE K ca H0 B (dApp0 sp) σ H Q → LSp K ca sp [] H Q E := fun σ H Q ⟨e, o, Q', R, q, imp⟩ =>
  ⟨fun b => ¬ okA B e o b, [], fun d => Q' d e, not_okA R, rfl, q, fun d qd v H2 s2 hv => imp d e qd v H2 o (R.grow s2) (Stp.same s2) (Dv.mono (Stp.weak fun b z => Classical.not_not.mp z) _ _ hv)⟩
theorem seq_of {K : PySem.W.Frag} {H : Hp} {k : Addr → Prop} {d : D} {xs : List D} {v : V} (h : DvW K ca H k d v) (hx : seqD d = some xs) : ∃ a vs, v = V.ref a ∧ (SqT K H a vs ∨ SqL K H a vs) ∧ DvL K ca H k xs vs := by
  cases d with
  | lst ys =>
    obtain ⟨p, vs, e1, h1, h2⟩ := h.ls hx
    exact ⟨p, vs, e1, .inr h1, h2⟩
  | klst ys =>
    obtain ⟨p, vs, e1, h1, h2⟩ := h.ls hx
    exact ⟨p, vs, e1, .inr h1, h2⟩
  | tup ys =>
    have e2 : ys = xs := Option.some.inj hx
    subst e2
    obtain ⟨p, vs, e1, h1, h2⟩ := h.tup
    exact ⟨p, vs, e1, .inl h1, h2⟩
  | _ => cases hx
theorem le_appS {K : PySem.W.Frag} {B : Addr → Prop} {t : TDO} (E : XK) : ∀ σ H Q, LE K ca H0 B (dAppS sp t) σ H Q → LO K ca H0 B t σ H fun y H1 => ∃ a xs, y = V.ref a ∧ (SqT K H1 a xs ∨ SqL K H1 a xs) ∧ LSp K ca sp xs H1 Q E := fun σ H Q ⟨e, o, Q', R, q, imp⟩ =>
  ⟨e, o, _, R, q, fun a e1 ⟨d, xs, hl, hx, q1⟩ v H1 o1 R1 s1 h1 => by
    obtain ⟨p, vs, e2, h2, h3⟩ := seq_of (R1.look h1 hl) hx
    exact ⟨p, vs, e2, h2, fun b => ¬ okA B e1 o1 b, xs, fun d => Q' d e1, not_okA R1, DvL.mono (Stp.weak fun b z => not_not_intro z) _ _ h3, q1, fun d qd v H2 s2 hv =>
      imp d e1 qd v H2 o1 (R1.grow s2) (s1.trans (Stp.same s2)) (Dv.mono (Stp.weak fun b z => Classical.not_not.mp z) _ _ hv)⟩⟩
theorem le_is {K : PySem.W.Frag} {B : Addr → Prop} {i : Nat} {c : Str} {td : TD} {T : TE} (h : ∀ σ H Q, LE K ca H0 B td σ H Q → T σ H Q) : ∀ σ H Q, LE K ca H0 B (dIs i c td) σ H Q → σ[i]? = some (some (.ref (ca c))) ∧ T σ H Q := fun σ H Q ⟨e, o, Q', R, ⟨hi, q⟩, imp⟩ => by
  obtain ⟨v, e1, hv⟩ := R.sh i _ hi
  have e2 : v = .ref (ca c) := hv
  exact ⟨by rw [e1, e2], h σ H Q ⟨e, o, Q', R, q, imp⟩⟩
theorem Cal.at (c : Cal X.prog X.w X.K X.mg X.base ca k f sp) (hr : Room k X.A) : CallR X (.ref f) (fun vs H Q => LSp X.K ca sp vs H Q E0) := c.2 X rfl rfl rfl rfl rfl hr
theorem de_app (d : Df X.prog X.w X.K X.mg X.base ca k n sp) (hr : Room k X.A) (hg : Gl X n) (ha : DA X ca H0 (x :: es) t) (hdb : (n == ("__debug__" : Str)) = false := by decide)
    (he : starEach (x :: es) X.env = (false, eval x X.env) :: starEach es X.env := by rfl) (hpl : (backTo pos (starEach es X.env)).any (·.1) = false := by rfl) : DE X ca H0 (.Call (.Name n p) (x :: es) [] pos) (dApp sp t) := by
  obtain ⟨f, hm, c⟩ := d
  exact ⟨fun B => pe_imp (pe_cG (c.at hr) c.1 hg hm (ha.pa B) hdb he hpl) (le_app E0)⟩
theorem de_app0 (d : Df X.prog X.w X.K X.mg X.base ca k n sp) (hr : Room k X.A) (hg : Gl X n) (hdb : (n == ("__debug__" : Str)) = false := by decide) : DE X ca H0 (.Call (.Name n p) [] [] pos) (dApp0 sp) := by
  obtain ⟨f, hm, c⟩ := d
  exact ⟨fun B => pe_imp (pe_cG0 (c.at hr) c.1 hg hm hdb) (le_app0 E0)⟩
theorem de_appS {to : TDO} {sp_ : Pos} (d : Df X.prog X.w X.K X.mg X.base ca k n sp) (hr : Room k X.A) (hg : Gl X n) (ha : DO X ca H0 x to) (hdb : (n == ("__debug__" : Str)) = false := by decide)
    (hst : starEach [.Starred x sp_] X.env = [(true, eval x X.env)] := by rfl) : DE X ca H0 (.Call (.Name n p) [.Starred x sp_] [] pos) (dAppS sp to) := by
  obtain ⟨f, hm, c⟩ := d
  exact ⟨fun B => pe_imp (pe_cGS (c.at hr) c.1 hg hm (ha.pe B) hdb hst) (le_appS E0)⟩
variable {i : Nat} {c : Str}
theorem de_appV (d : Cal X.prog X.w X.K X.mg X.base ca k (ca c) sp) (hr : Room k X.A) (hf : PE X (.Name n p) (tVar i)) (ha : DA X ca H0 (x :: es) t)
    (he : starEach (x :: es) X.env = (false, eval x X.env) :: starEach es X.env := by rfl) (hpl : (backTo pos (starEach es X.env)).any (·.1) = false := by rfl) : DE X ca H0 (.Call (.Name n p) (x :: es) [] pos) (dIs i c (dApp sp t)) :=
  ⟨fun B => pe_imp (pe_cV (d.at hr) d.1 hf (ha.pa B) he hpl) (le_is (le_app E0))⟩
theorem de_appV0 (d : Cal X.prog X.w X.K X.mg X.base ca k (ca c) sp) (hr : Room k X.A) (hf : PE X (.Name n p) (tVar i)) : DE X ca H0 (.Call (.Name n p) [] [] pos) (dIs i c (dApp0 sp)) :=
  ⟨fun B => pe_imp (pe_cV0 (d.at hr) d.1 hf) (le_is (le_app0 E0))⟩
theorem de_appVS {to : TDO} {sp_ : Pos} (d : Cal X.prog X.w X.K X.mg X.base ca k (ca c) sp) (hr : Room k X.A) (hf : PE X (.Name n p) (tVar i)) (ha : DO X ca H0 x to)
    (hst : starEach [.Starred x sp_] X.env = [(true, eval x X.env)] := by rfl) : DE X ca H0 (.Call (.Name n p) [.Starred x sp_] [] pos) (dIs i c (dAppS sp to)) :=
  ⟨fun B => pe_imp (pe_cVS (d.at hr) d.1 hf (ha.pe B) hst) (le_is (le_appS E0))⟩
end
/-! ### a def by its body -/
def startE (n : Nat) (ds : List D) : DEnv := ds.map Ent.sh ++ List.replicate (n - ds.length) .un
def Does (n : Nat) (T : TDS) (sp : DSp) : Prop := ∀ ds Q, sp ds Q DX0 → T { nx := fun _ => Q .non, rt := Q } (startE n ds)
section
variable {K : PySem.W.Frag} {ca : Str → Addr} {B : Addr → Prop} {H : Hp} {N : List Str} {ds : List D} {vs : List V} {o : Nat → Addr}
theorem startE_get : ∀ {ds : List D} {m i : Nat} {x : Ent}, (ds.map Ent.sh ++ List.replicate m .un)[i]? = some x → x ≠ .un → ∃ d, x = .sh d ∧ ds[i]? = some d
  | [], m, i, x, h, hx => by
    have h1 : (List.replicate m Ent.un)[i]? = some x := by simpa using h
    rw [List.getElem?_replicate] at h1
    split at h1
    · exact absurd (Option.some.inj h1).symm hx
    · cases h1
  | d :: ds, m, 0, x, h, hx => ⟨d, by simpa using h.symm, rfl⟩
  | d :: ds, m, i + 1, x, h, hx => by
    have h1 : (ds.map Ent.sh ++ List.replicate m .un)[i]? = some x := by simpa using h
    obtain ⟨z, e1, e2⟩ := startE_get h1 hx
    exact ⟨z, e1, by simpa using e2⟩
theorem start_get {i : Nat} {v : V} (h : vs[i]? = some v) : (L2.start N vs)[i]? = some (some v) := by
  obtain ⟨h1, h2⟩ := List.getElem?_eq_some_iff.mp h
  unfold L2.start
  rw [List.getElem?_append_left (by simpa using h1)]
  simp [h2, h1]
theorem rep_start (hB : ∀ b, B b → H b ≠ none) (hd : DvL K ca H (fun b => ¬ B b) ds vs) (hn : ds.length ≤ N.length) : Rep K ca B H H (L2.start N vs) (startE N.length ds) o where
  sh := fun i d hi => by
    obtain ⟨z, e1, e2⟩ := startE_get hi fun q => nomatch q
    have e3 : d = z := by injection e1
    subst e3
    obtain ⟨v, e4, hv⟩ := hd.get e2
    exact ⟨v, start_get e4, Dv.mono (Stp.weak fun b hb => ⟨hb, fun j xs hj => by
      obtain ⟨z, e5, _⟩ := startE_get hj fun q => nomatch q
      cases e5⟩) _ _ hv⟩
  ol := fun i xs hi => by
    obtain ⟨z, e5, _⟩ := startE_get hi fun q => nomatch q
    cases e5
  ne := fun i j xs ys hi => by
    obtain ⟨z, e5, _⟩ := startE_get hi fun q => nomatch q
    cases e5
  fr := fun i xs hi => by
    obtain ⟨z, e5, _⟩ := startE_get hi fun q => nomatch q
    cases e5
  nb := fun i xs hi => by
    obtain ⟨z, e5, _⟩ := startE_get hi fun q => nomatch q
    cases e5
  sm := Same.refl _
  bd := hB
  ln := by
    have := hd.length
    unfold startE L2.start
    simp
    omega
  lt := fun i xs hi => by
    obtain ⟨z, e5, _⟩ := startE_get hi fun q => nomatch q
    cases e5
end
section
variable {P : Program} {w : World} {K : PySem.W.Frag} {mg : Str → Option Value} {base : Heap} {ca : Str → Addr} {k : Nat} {f : Addr} {fd : FuncData} {name qual : Str} {params : Arguments} {body : List Stmt} {scope : Scope} {N ps : List Str} {sp : DSp} {T : TDS}
theorem ls_start {X : Cx} {H : Hp} {vs : List V} {Q : VK} {E : XK} (hT : ∀ ds Q, sp ds Q DX0 → ds.length ≤ N.length ∧ T { nx := fun _ => Q .non, rt := Q } (startE N.length ds)) (h : LSp K ca sp vs H Q E) :
    ∃ B, LS K ca H B T { nx := fun _ H' => Q .non H', rt := Q } (L2.start N vs) H := by
  obtain ⟨B, ds, Q', hB, hd, hs, imp⟩ := h
  obtain ⟨hl, hT⟩ := hT ds Q' hs
  refine ⟨B, startE N.length ds, fun _ => 0, { nx := fun _ => Q' .non, rt := Q' }, rep_start hB hd hl, hT, fun e' q σ' H' o' R st => imp .non q .non H' R.sm rfl, fun d q v H' sm hv => imp d q v H' sm hv, ?_, ?_⟩
  · intro e' q
    exact q.elim
  · intro e' q
    exact q.elim
theorem fr_of (F : FunD K name qual params body scope [] [] f fd) (S : FnScope N ps scope) (hb : Binds K fd ps []) (hl : ∀ ds Q, sp ds Q DX0 → ds.length = ps.length) (hn : ps.length ≤ N.length)
    (hD : ∀ (cdv : Value) (A : Around) (outer : List Env) (s : Shared) (H : Hp) (E : XK), Room k (A.deeper (PyProof.Rows.envOfC qual scope s.heap.objs.size f cdv)) → DSs (cxOf CX0 P w K mg base N qual scope f cdv A outer s H E) ca H body T)
    (hT : Does N.length T sp) : FnR P w K mg base CX0 (k + 1) f (LSp K ca sp) := by
  have G : FnOk P w K mg base CX0 (k + 1) f fd ps (LSp K ca sp) := F.ok S (fun vs H Q E ⟨B, ds, Q', hB, hd, hs, imp⟩ => by rw [← hd.length]; exact hl ds Q' hs) fun cdv A outer s H vs Q E hr h => by
    obtain ⟨B, h1⟩ := ls_start (X := cxOf CX0 P w K mg base N qual scope f cdv A outer s H E) (N := N) (T := T) (fun ds Q hs => ⟨by rw [hl ds Q hs]; exact hn, hT ds Q hs⟩) h
    exact ⟨_, (hD cdv A outer s H E hr).ps B, h1⟩
  simpa using G.raw hb .nil
theorem df_of (hm : mg name = some (.ref f)) (F : FunD K name qual params body scope [] [] f fd) (G : FnR P w K mg base CX0 k f (LSp K ca sp)) : Df P w K mg base ca k name sp := ⟨f, hm, .of F.kp G⟩
theorem Df.mono {j : Nat} (d : Df P w K mg base ca j name sp) (h : j ≤ k) : Df P w K mg base ca k name sp := by
  obtain ⟨f, a, c⟩ := d
  exact ⟨f, a, c.mono h⟩
/-- def f(a, .., *v): the rest is a tuple -/
def spStar (n : Nat) (sp : DSp) : DSp := fun ds Q F => n ≤ ds.length ∧ (ds.drop n).length ≤ sizeLine ∧ sp (ds.take n ++ [.tup (ds.drop n)]) Q F
theorem fr_star {pv : Str} (F : FunD K name qual params body scope [] [] f fd) (S : FnScope N (ps ++ [pv]) scope)
    (hb : ∀ (kV doc pm : Value) (an : Option Addr) (cdv ct : Value) (us rest : List Value), us.length = ps.length → bindArgs (PySem.W.fnOf name qual params body scope .none kV doc pm an cdv ct) ⟨us ++ rest, []⟩ = (newTuple rest >>= fun t => pure (ps.zip us ++ [(pv, t)])))
    (hl : ∀ ds Q, sp ds Q DX0 → ds.length = ps.length + 1) (hn : ps.length + 1 ≤ N.length)
    (hD : ∀ (cdv : Value) (A : Around) (outer : List Env) (s : Shared) (H : Hp) (E : XK), Room k (A.deeper (PyProof.Rows.envOfC qual scope s.heap.objs.size f cdv)) → DSs (cxOf CX0 P w K mg base N qual scope f cdv A outer s H E) ca H body T)
    (hT : Does N.length T sp) : FnR P w K mg base CX0 (k + 1) f (LSp K ca (spStar ps.length sp)) := by
  obtain ⟨oc, od, dV, kV, doc, pm, an, cdv, ct, osl, rfl, lk, hcd, hD0, _⟩ := F.ex
  have e0 : dV = .none := by
    rcases hD0 with ⟨_, e⟩ | ⟨e, _⟩
    · exact e
    · exact absurd rfl e
  subst e0
  have G := StX.fn_star (P := P) (w := w) (mg := mg) (base := base) (k := k) (sp := LSp K ca sp) lk hcd S StX.cxUp_none (hb kV doc pm an cdv ct) fun A outer s H vs Q E hr h => by
    obtain ⟨B, h1⟩ := ls_start (X := cxOf CX0 P w K mg base N qual scope f cdv A outer s H E) (N := N) (T := T) (fun ds Q hs => ⟨by rw [hl ds Q hs]; exact hn, hT ds Q hs⟩) h
    exact ⟨_, (hD cdv A outer s H E hr).ps B, h1⟩
  refine G.imp fun vs H Q E ⟨B, ds, Q', hB, hd, ⟨h1, h2, hs⟩, imp⟩ => ?_
  have hlen := hd.length
  refine ⟨vs.take ps.length, vs.drop ps.length, (List.take_append_drop _ _).symm, by rw [List.length_take]; omega, by rw [List.length_drop, ← hlen, ← List.length_drop]; exact h2, fun p hp => ?_⟩
  have sm := same_new (u := .tup (vs.drop ps.length)) hp
  have hd2 := DvL.mono (Stp.same sm) _ _ hd
  refine ⟨B, _, Q', fun b hb z => ?_, (hd2.take ps.length).append (.cons (d := D.tup (ds.drop ps.length)) (Dv.newT (fun z => hB p z hp) upd_same (hd2.drop ps.length)) .nil), hs, fun d qd v H' s' hv => imp d qd v H' (sm.trans s') hv⟩
  have h3 := hB b hb
  by_cases hbp : b = p
  · rw [hbp] at h3
    exact h3 hp
  · rw [upd_ne hbp] at z
    exact h3 z
end
end DL
set_option Elab.async false
set_option linter.all false
set_option maxRecDepth 100000
set_option maxHeartbeats 4000000
/-! DP: operators and built-ins on data -/
namespace DL
open PySem PySem.Spec L2

section
variable {K : PySem.W.Frag} {ca : Str → Addr} {H : Hp} {k : Addr → Prop}
theorem DvW.dv_tup {xs : List D} {v : V} (h : DvW K ca H k (.tup xs) v) : Dv K ca H k (.tup xs) v := by
  rcases h with h | ⟨ys, p, vs, e1, e2, e3, h⟩
  · exact h
  · cases e1
/-! ### numbers, texts, tuples -/
def fAdd : D → D → Option D
  | .int i, .int j => some (.int (i + j))
  | .str a, .str b => if a.length + b.length ≤ sizeLine then some (.str (a ++ b)) else none
  | .tup xs, .tup ys => if xs.length + ys.length ≤ sizeLine then some (.tup (xs ++ ys)) else none
  | _, _ => none
def rAddD (K : PySem.W.Frag) : R2 := fun x y H Q => (rI0 (fun i j => .int (i + j)) x y H Q ∨ (∃ i j, x = .str i ∧ y = .str j ∧ i.length + j.length ≤ sizeLine ∧ Q (.str (i ++ j)) H)) ∨ rCatA K x y H Q
theorem or_addD {X : Cx} : OpR X (binaryOp .Add) (rAddD X.K) := (op_add.or op_add_str).or op_catA
theorem od_add : OpD K ca fAdd (rAddD K) := by
  intro H k a b c v u Q hk ha hb hf hQ
  match a, b, hf with
  | .int i, .int j, hf =>
    have e : D.int (i + j) = c := Option.some.inj hf
    subst e
    exact .inl (.inl ⟨i, j, ha.int, hb.int, hQ _ _ (Same.refl _) rfl⟩)
  | .str i, .str j, hf =>
    have hf' : (if i.length + j.length ≤ sizeLine then some (D.str (i ++ j)) else none) = some c := hf
    split at hf'
    · have e : D.str (i ++ j) = c := Option.some.inj hf'
      subst e
      exact .inl (.inr ⟨i, j, ha.str, hb.str, by assumption, hQ _ _ (Same.refl _) rfl⟩)
    · cases hf'
  | .tup xs, .tup ys, hf =>
    have hf' : (if xs.length + ys.length ≤ sizeLine then some (D.tup (xs ++ ys)) else none) = some c := hf
    split at hf'
    · have e : D.tup (xs ++ ys) = c := Option.some.inj hf'
      subst e
      obtain ⟨p, vs, e1, h1, h2⟩ := ha.tup
      obtain ⟨q, ws, e3, h3, h4⟩ := hb.tup
      refine .inr ⟨p, q, vs, ws, e1, e3, h1, h3, by rw [← h2.length, ← h4.length]; assumption, fun e5 => ?_, fun _ e5 => ?_, fun _ _ t ht => ?_⟩
      · have e6 : xs = [] := List.eq_nil_of_length_eq_zero (by rw [h2.length, e5] <;> rfl)
        subst e6
        rw [← e3]
        exact hQ _ _ (Same.refl _) hb.dv_tup
      · have e6 : ys = [] := List.eq_nil_of_length_eq_zero (by rw [h4.length, e5] <;> rfl)
        subst e6
        rw [← e1]
        exact hQ _ _ (Same.refl _) (by rw [List.append_nil]; exact ha.dv_tup)
      · exact hQ _ _ (same_new ht) ⟨t, _, rfl, .inl ⟨hk t ht, .inl upd_same⟩, (DvL.mono (Stp.same (same_new ht)) _ _ h2).append (DvL.mono (Stp.same (same_new ht)) _ _ h4)⟩
    · cases hf'
/-- ints alone, under a condition -/
def fI (C : Int → Int → Prop) [∀ i j, Decidable (C i j)] (g : Int → Int → D) : D → D → Option D
  | .int i, .int j => if C i j then some (g i j) else none
  | _, _ => none
theorem od_i {C : Int → Int → Prop} [∀ i j, Decidable (C i j)] {g : Int → Int → D} {gv : Int → Int → V} (hg : ∀ i j H k, Dv K ca H k (g i j) (gv i j)) : OpD K ca (fI C g) (rI C gv) := by
  intro H k a b c v u Q hk ha hb hf hQ
  match a, b, hf with
  | .int i, .int j, hf =>
    have hf' : (if C i j then some (g i j) else none) = some c := hf
    split at hf'
    · have e : g i j = c := Option.some.inj hf'
      subst e
      exact ⟨i, j, ha.int, hb.int, by assumption, hQ _ _ (Same.refl _) (hg i j _ _)⟩
    · cases hf'
def fI0 (g : Int → Int → D) : D → D → Option D
  | .int i, .int j => some (g i j)
  | _, _ => none
theorem od_i0 {g : Int → Int → D} {gv : Int → Int → V} (hg : ∀ i j H k, Dv K ca H k (g i j) (gv i j)) : OpD K ca (fI0 g) (rI0 gv) := by
  intro H k a b c v u Q hk ha hb hf hQ
  match a, b, hf with
  | .int i, .int j, hf =>
    have e : g i j = c := Option.some.inj hf
    subst e
    exact ⟨i, j, ha.int, hb.int, hQ _ _ (Same.refl _) (hg i j _ _)⟩
abbrev fSub := fI0 fun i j => .int (i - j)
instance : ∀ i j, Decidable (CMulW i j) := fun i j => by unfold CMulW; infer_instance
def CMulD (i j : Int) : Prop := CMulW i j ∨ CMul i j
instance : ∀ i j, Decidable (CMul i j) := fun i j => by unfold CMul; infer_instance
instance : ∀ i j, Decidable (CMulD i j) := fun i j => by unfold CMulD; infer_instance
theorem op_mulD {X : Cx} : OpR X (binaryOp .Mult) (rI CMulD fun i j => .int (i * j)) := fun pins s σ H x y v u Q I rx ry ⟨i, j, e1, e2, c, q⟩ =>
  c.elim (fun c => op_mulW pins s σ H x y v u Q I rx ry ⟨i, j, e1, e2, c, q⟩) fun c => op_mul pins s σ H x y v u Q I rx ry ⟨i, j, e1, e2, c, q⟩
instance : ∀ i j, Decidable (CDivW i j) := fun i j => by unfold CDivW; infer_instance
instance : ∀ i j, Decidable (CPow i j) := fun i j => by unfold CPow; infer_instance
def CMod (_ j : Int) : Prop := 0 < j
instance : ∀ i j, Decidable (CMod i j) := fun i j => by unfold CMod; infer_instance
abbrev fMul := fI CMulD fun i j => .int (i * j)
abbrev fFdiv := fI CDivW fun i j => .int (i / j)
abbrev fMod := fI CMod fun i j => .int (i % j)
abbrev fPow := fI CPow fun i j => .int (i ^ j.toNat)
abbrev fLt := fI0 fun i j => .bl (decide (i < j))
abbrev fLe := fI0 fun i j => .bl (decide (i ≤ j))
abbrev fGt := fI0 fun i j => .bl (decide (j < i))
abbrev fGe := fI0 fun i j => .bl (decide (j ≤ i))
theorem od_sub : OpD K ca fSub (rI0 fun i j => .int (i - j)) := od_i0 fun _ _ _ _ => rfl
theorem od_mul : OpD K ca fMul (rI CMulD fun i j => .int (i * j)) := od_i fun _ _ _ _ => rfl
theorem od_fdiv : OpD K ca fFdiv (rI CDivW fun i j => .int (i / j)) := od_i fun _ _ _ _ => rfl
theorem od_mod : OpD K ca fMod (rI (fun _ j => 0 < j) fun i j => .int (i % j)) := od_i (C := CMod) fun _ _ _ _ => rfl
theorem od_pow : OpD K ca fPow (rI CPow fun i j => .int (i ^ j.toNat)) := od_i fun _ _ _ _ => rfl
theorem od_lt : OpD K ca fLt (rI0 fun i j => .bl (decide (i < j))) := od_i0 fun _ _ _ _ => rfl
theorem od_le : OpD K ca fLe (rI0 fun i j => .bl (decide (i ≤ j))) := od_i0 fun _ _ _ _ => rfl
theorem od_gt : OpD K ca fGt (rI0 fun i j => .bl (decide (j < i))) := od_i0 fun _ _ _ _ => rfl
theorem od_ge : OpD K ca fGe (rI0 fun i j => .bl (decide (j ≤ i))) := od_i0 fun _ _ _ _ => rfl
def fNeg : D → Option D
  | .int i => some (.int (-i))
  | _ => none
theorem ud_neg : UnD K ca fNeg (rU fun i => .int (-i)) := by
  intro H k a c v Q hk ha hf hQ
  match a, hf with
  | .int i, hf =>
    have e : D.int (-i) = c := Option.some.inj hf
    subst e
    exact ⟨i, ha.int, hQ _ _ (Same.refl _) rfl⟩
/-! ### == of data without instances -/
mutual
def toPy : D → Option PyData
  | .non => some .none
  | .bl b => some (.bool b)
  | .int i => some (.int i)
  | .str x => some (.str x)
  | .lst xs => (toPyL xs).map .list
  | .klst xs => (toPyL xs).map .list
  | .tup xs => (toPyL xs).map .tuple
  | _ => none
def toPyL : List D → Option (List PyData)
  | [] => some []
  | d :: ds => match toPy d, toPyL ds with
    | some x, some xs => some (x :: xs)
    | _, _ => none
end
mutual
theorem dp_of : ∀ (d : D) (v : V) (x : PyData), DvW K ca H k d v → toPy d = some x → Dp K H v x
  | .non, v, x, h, e => by
    have e1 : PyData.none = x := Option.some.inj e
    rw [h.non, ← e1]
    exact .non
  | .bl b, v, x, h, e => by
    have e1 : PyData.bool b = x := Option.some.inj e
    rw [h.bl, ← e1]
    exact .bl b
  | .int b, v, x, h, e => by
    have e1 : PyData.int b = x := Option.some.inj e
    rw [h.int, ← e1]
    exact .int b
  | .str b, v, x, h, e => by
    have e1 : PyData.str b = x := Option.some.inj e
    rw [h.str, ← e1]
    exact .str b
  | .lst xs, v, x, h, e => by
    have e' : (toPyL xs).map PyData.list = some x := e
    cases q : toPyL xs with
    | none => rw [q] at e'; cases e'
    | some ys =>
      rw [q] at e'
      have e1 : PyData.list ys = x := Option.some.inj e'
      obtain ⟨p, vs, e2, h1, h2⟩ := h.ls (xs := xs) rfl
      rw [e2, ← e1]
      exact .lst h1 (dpA_of xs vs ys h2 q)
  | .klst xs, v, x, h, e => by
    have e' : (toPyL xs).map PyData.list = some x := e
    cases q : toPyL xs with
    | none => rw [q] at e'; cases e'
    | some ys =>
      rw [q] at e'
      have e1 : PyData.list ys = x := Option.some.inj e'
      obtain ⟨p, vs, e2, h1, h2⟩ := h.ls (xs := xs) rfl
      rw [e2, ← e1]
      exact .lst h1 (dpA_of xs vs ys h2 q)
  | .tup xs, v, x, h, e => by
    have e' : (toPyL xs).map PyData.tuple = some x := e
    cases q : toPyL xs with
    | none => rw [q] at e'; cases e'
    | some ys =>
      rw [q] at e'
      have e1 : PyData.tuple ys = x := Option.some.inj e'
      obtain ⟨p, vs, e2, h1, h2⟩ := h.tup
      rw [e2, ← e1]
      exact .tup h1 (dpA_of xs vs ys h2 q)
  | .obj .., v, x, h, e => by cases e
  | .src, v, x, h, e => by cases e
  | .dct .., v, x, h, e => by cases e
  | .ty _, v, x, h, e => by cases e
  | .cls _, v, x, h, e => by cases e
  | .adr _, v, x, h, e => by cases e
theorem dpA_of : ∀ (ds : List D) (vs : List V) (xs : List PyData), DvL K ca H k ds vs → toPyL ds = some xs → DpAll K H vs xs
  | [], vs, xs, h, e => by
    have e1 : ([] : List PyData) = xs := Option.some.inj e
    have e2 : vs = [] := h
    rw [e2, ← e1]
    exact .nil
  | d :: ds, vs, xs, h, e => by
    obtain ⟨v, r, e1, h1, h2⟩ := h
    have e' : (match toPy d, toPyL ds with
      | some x, some xs => some (x :: xs)
      | _, _ => none) = some xs := e
    cases q1 : toPy d with
    | none => rw [q1] at e'; cases e'
    | some x =>
      cases q2 : toPyL ds with
      | none => rw [q1, q2] at e'; cases e'
      | some ys =>
        rw [q1, q2] at e'
        have e2 : x :: ys = xs := Option.some.inj e'
        rw [e1, ← e2]
        exact .cons (dp_of d v x (.of h1) q1) (dpA_of ds r ys h2 q2)
end
def eqD (a b : D) : Option Bool := match toPy a, toPy b with
  | some x, some y => if SeqAt.shaped x = true ∧ SeqAt.shaped y = true then some (PyData.eqv x y) else none
  | _, _ => none
def fEq (a b : D) : Option D := (eqD a b).map D.bl
def fNe (a b : D) : Option D := (eqD a b).map fun z => D.bl (!z)
theorem eqD_inv {a b : D} {z : Bool} (h : eqD a b = some z) : ∃ x y, toPy a = some x ∧ toPy b = some y ∧ SeqAt.shaped x = true ∧ SeqAt.shaped y = true ∧ PyData.eqv x y = z := by
  unfold eqD at h
  cases q1 : toPy a with
  | none => rw [q1] at h; cases h
  | some x =>
    cases q2 : toPy b with
    | none => rw [q1, q2] at h; cases h
    | some y =>
      rw [q1, q2] at h
      have h' : (if SeqAt.shaped x = true ∧ SeqAt.shaped y = true then some (PyData.eqv x y) else none) = some z := h
      split at h'
      · rename_i hs
        exact ⟨x, y, rfl, rfl, hs.1, hs.2, Option.some.inj h'⟩
      · cases h'
theorem od_eq : OpD K ca fEq (rEqD K) := by
  intro H k a b c v u Q hk ha hb hf hQ
  unfold fEq at hf
  cases q : eqD a b with
  | none => rw [q] at hf; cases hf
  | some z =>
    rw [q] at hf
    have e : D.bl z = c := Option.some.inj hf
    subst e
    obtain ⟨x, y, h1, h2, h3, h4, h5⟩ := eqD_inv q
    exact ⟨x, y, dp_of a v x ha h1, dp_of b u y hb h2, h3, h4, hQ _ _ (Same.refl _) (by rw [h5] <;> rfl)⟩
theorem od_ne : OpD K ca fNe (rNeD K) := by
  intro H k a b c v u Q hk ha hb hf hQ
  unfold fNe at hf
  cases q : eqD a b with
  | none => rw [q] at hf; cases hf
  | some z =>
    rw [q] at hf
    have e : D.bl (!z) = c := Option.some.inj hf
    subst e
    obtain ⟨x, y, h1, h2, h3, h4, h5⟩ := eqD_inv q
    exact ⟨x, y, dp_of a v x ha h1, dp_of b u y hb h2, h3, h4, hQ _ _ (Same.refl _) (by rw [h5] <;> rfl)⟩
/-! ### is None -/
def isNo : D → Bool
  | .non => true
  | _ => false
def fIs : D → D → Option D
  | a, .non => some (.bl (isNo a))
  | _, _ => none
def fIsNot : D → D → Option D
  | a, .non => some (.bl (!isNo a))
  | _, _ => none
theorem non_iff {d : D} {v : V} (h : DvW K ca H k d v) : decide (v = .non) = isNo d := by
  rcases h with h | ⟨xs, p, vs, e1, e2, e3, h⟩
  · cases d with
    | non => have e : v = .non := h; rw [e] <;> rfl
    | bl b => have e : v = .bl b := h; rw [e] <;> rfl
    | int b => have e : v = .int b := h; rw [e] <;> rfl
    | str b => have e : v = .str b := h; rw [e] <;> rfl
    | lst xs => obtain ⟨p, vs, e, _⟩ := h; rw [e] <;> rfl
    | tup xs => obtain ⟨p, vs, e, _⟩ := h; rw [e] <;> rfl
    | obj c ns ds => obtain ⟨p, dx, vs, e, _⟩ := h; rw [e] <;> rfl
    | src => obtain ⟨p, e, _⟩ := h; rw [e] <;> rfl
    | dct ks ds => obtain ⟨p, vs, e, _⟩ := h; rw [e] <;> rfl
    | ty T => have e : v = .ty T := h; rw [e] <;> rfl
    | cls c => have e : v = .ref (ca c) := h; rw [e] <;> rfl
    | adr a => have e : v = .ref a := h; rw [e] <;> rfl
    | klst xs => obtain ⟨p, vs, e, _⟩ := h; rw [e] <;> rfl
  · rw [e1, e2] <;> rfl
theorem od_is : OpD K ca fIs (fun x y H Q => y = .non ∧ Q (.bl (decide (x = .non))) H) := by
  intro H k a b c v u Q hk ha hb hf hQ
  match b, hf with
  | .non, hf =>
    have e : D.bl (isNo a) = c := Option.some.inj hf
    subst e
    exact ⟨hb.non, hQ _ _ (Same.refl _) (by rw [non_iff ha] <;> rfl)⟩
theorem od_isNot : OpD K ca fIsNot (fun x y H Q => y = .non ∧ Q (.bl (!decide (x = .non))) H) := by
  intro H k a b c v u Q hk ha hb hf hQ
  match b, hf with
  | .non, hf =>
    have e : D.bl (!isNo a) = c := Option.some.inj hf
    subst e
    exact ⟨hb.non, hQ _ _ (Same.refl _) (by rw [non_iff ha] <;> rfl)⟩
/-! ### in, not in: a list of data, one sign in a text -/
def inD : D → D → Option Bool
  | .str a, .str b => match a.cps.toList with
    | [c] => some (decide (c ∈ b.cps.toList))
    | _ => none
  | a, b => match toPy a, toPy b with
    | some x, some (.list ys) => if SeqAt.shaped x = true ∧ SeqAt.shaped (.list ys) = true then some (ys.any fun z => PyData.eqv z x) else none
    | _, _ => none
def fIn (a b : D) : Option D := (inD a b).map D.bl
def fNotIn (a b : D) : Option D := (inD a b).map fun z => D.bl (!z)
theorem inD_inv {a b : D} {z : Bool} (h : inD a b = some z) : (∃ c y, a = .str ⟨#[c]⟩ ∧ b = .str y ∧ z = decide (c ∈ y.cps.toList)) ∨
    ∃ x ys, toPy a = some x ∧ toPy b = some (.list ys) ∧ SeqAt.shaped x = true ∧ SeqAt.shaped (.list ys) = true ∧ z = ys.any fun w => PyData.eqv w x := by
  unfold inD at h
  split at h
  · rename_i a b
    split at h
    · rename_i c hc
      refine .inl ⟨c, b, ?_, rfl, (Option.some.inj h).symm⟩
      have : a.cps = #[c] := by
        apply Array.ext'
        simpa using hc
      cases a
      simp at this
      rw [this]
    · cases h
  · split at h
    · rename_i x ys h1 h2
      split at h
      · rename_i hs
        exact .inr ⟨x, ys, h1, h2, hs.1, hs.2, (Option.some.inj h).symm⟩
      · cases h
    · cases h
def rInDD (K : PySem.W.Frag) : R2 := fun x y H Q => (∃ (c : Nat) (z : Str), x = .str ⟨#[c]⟩ ∧ y = .str z ∧ Q (.bl (decide (c ∈ z.cps.toList))) H) ∨ rInD K x y H Q
def rNotInDD (K : PySem.W.Frag) : R2 := fun x y H Q => (∃ (c : Nat) (z : Str), x = .str ⟨#[c]⟩ ∧ y = .str z ∧ Q (.bl (!decide (c ∈ z.cps.toList))) H) ∨ rNotInD K x y H Q
theorem or_inD {X : Cx} (hu : X.A.units + 65 < cLine) : OpR X (compareOp .In) (rInDD X.K) := op_in_sign.or (op_inD hu)
theorem or_notInD {X : Cx} (hu : X.A.units + 65 < cLine) : OpR X (compareOp .NotIn) (rNotInDD X.K) := op_notIn_sign.or (op_notInD hu)
theorem od_in : OpD K ca fIn (rInDD K) := by
  intro H k a b c v u Q hk ha hb hf hQ
  unfold fIn at hf
  cases q : inD a b with
  | none => rw [q] at hf; cases hf
  | some z =>
    rw [q] at hf
    have e : D.bl z = c := Option.some.inj hf
    subst e
    rcases inD_inv q with ⟨c, y, e1, e2, e3⟩ | ⟨x, ys, h1, h2, h3, h4, h5⟩
    · subst e1 e2 e3
      exact .inl ⟨c, y, ha.str, hb.str, hQ _ _ (Same.refl _) rfl⟩
    · exact .inr ⟨x, ys, dp_of a v x ha h1, dp_of b u _ hb h2, h3, h4, hQ _ _ (Same.refl _) (by rw [h5] <;> rfl)⟩
theorem od_notIn : OpD K ca fNotIn (rNotInDD K) := by
  intro H k a b c v u Q hk ha hb hf hQ
  unfold fNotIn at hf
  cases q : inD a b with
  | none => rw [q] at hf; cases hf
  | some z =>
    rw [q] at hf
    have e : D.bl (!z) = c := Option.some.inj hf
    subst e
    rcases inD_inv q with ⟨c, y, e1, e2, e3⟩ | ⟨x, ys, h1, h2, h3, h4, h5⟩
    · subst e1 e2 e3
      exact .inl ⟨c, y, ha.str, hb.str, hQ _ _ (Same.refl _) rfl⟩
    · exact .inr ⟨x, ys, dp_of a v x ha h1, dp_of b u _ hb h2, h3, h4, hQ _ _ (Same.refl _) (by rw [h5] <;> rfl)⟩
end
end DL
set_option Elab.async false
set_option linter.all false
set_option maxRecDepth 100000
set_option maxHeartbeats 4000000
/-! DS: targets with a star at the end -/
namespace DL
open PySem PySem.Spec L2

section
variable {prog : Program} {w : World} {A : Around} {E : Value → Shared → Prop} {s : Shared}
/-- the first i items, then a new list of what is left -/
theorem star_items {l : Bool} {a : Addr} {items : Array Value} {n i : Nat} {Q : List Value → Shared → Prop} (hl : IsB l s.heap a items) (hh : A.handled = none) (hn : i + 1 = n) (hi : i ≤ items.size) (hz : items.size ≤ sizeLine)
    (h : ∀ (h' : Heap) (tk : Nat), (∀ b o, s.heap.get? b = some o → h'.get? b = some o) → Q (items.toList.take i ++ [.ref h'.objs.size]) { s with heap := h'.push { cls := .type "list", data := .seq (items.toList.drop i).toArray }, toks := tk }) :
    wpAny (model prog w) A (unpackItems (.ref a) n (some i)) Q E s := by
  have tail : ∀ (h₂ : Heap) (tk : Nat), (∀ b o, b ≠ s.heap.objs.size → s.heap.get? b = some o → h₂.get? b = some o) →
      wpAny (model prog w) A (newList ((items.toList.drop i).take ((items.toList.drop i).length - (n - 1 - i))) >>= fun d => pure (items.toList.take i ++ [d] ++ (items.toList.drop i).drop ((items.toList.drop i).length - (n - 1 - i)))) Q E { s with heap := h₂, toks := tk } := by
    intro h₂ tk hk
    have e0 : n - 1 - i = 0 := by omega
    rw [e0, Nat.sub_zero, List.take_length, List.drop_length]
    refine wpAny_bind (wpAny_newList ?_ (by rw [List.length_drop, Array.length_toList]; omega))
    refine wpAny_pure ?_
    rw [List.append_nil]
    exact h h₂ tk fun b o e => hk b o (Nat.ne_of_lt (Heap.lt_size e)) e
  cases l with
  | true =>
    have hl : s.heap.IsList a items := hl
    have hlt : a ≠ s.heap.objs.size := by obtain ⟨o, ho, _⟩ := hl; exact Nat.ne_of_lt (Heap.lt_size ho)
    unfold unpackItems
    refine wpAny_bind ?_
    unfold notIterableAtAll
    refine wpAny_bind (wpAny_specialOf hl.typeIs PySem.F.slot_list_iter.lookup ?_)
    refine wpAny_pure ?_
    simp only [Bool.false_eq_true, if_false]
    refine wpAny_bind (wpAny_holding (wpAny_pyIter_list hl ?_))
    refine wpAny_bind (wpAny_holding (PySem.W.kun_draw hlt i 0 _ _ ⟨_, Heap.get?_push_size _ rfl, rfl, rfl⟩ (hl.push _) (by omega) fun h₁ hit₁ hs₁ => ?_))
    have hl₁ : h₁.IsList a items := (hl.push _).extBut hs₁.extBut hlt
    rw [Nat.zero_add] at hit₁
    have hit₁' := hit₁
    obtain ⟨oi, hoi, _⟩ := hit₁'
    have hl₁' := hl₁
    obtain ⟨ol, hol, _⟩ := hl₁'
    rw [List.drop_zero]
    have hfl : (items.toList.take i).length = i := by rw [List.length_take, Array.length_toList]; omega
    rw [if_neg (show ¬ ((items.toList.take i).length < i) by rw [hfl]; omega)]
    refine wpAny_bind (wpAny_holding (PySem.W.kun_collect (s := { s with heap := h₁ }) (T := "list_iterator") (.inr (.inr (.inl rfl))) (Walks.list (A := A.in1) hh s.heap.objs.size a hlt items) (fun j u st => st.1.typeIs) (k := i) (by omega) ⟨hit₁, hl₁⟩ (Heap.lt_size hoi) (Heap.lt_size hol) (fun h₂ tk hk => ?_) hz))
    show wpAny _ _ (if (items.toList.drop i).length < n - 1 - i then _ else _) _ _ _
    rw [if_neg (by omega)]
    exact tail h₂ tk fun b o hb e => hk b o hb (hs₁.extBut b o hb (Heap.get?_push_of_some _ e))
  | false =>
    have hl : PyProof.Rows.IsTup s.heap a items := hl
    have hlt : a ≠ s.heap.objs.size := by obtain ⟨o, ho, _⟩ := hl; exact Nat.ne_of_lt (Heap.lt_size ho)
    unfold unpackItems
    refine wpAny_bind ?_
    unfold notIterableAtAll
    refine wpAny_bind (wpAny_specialOf hl.typeIs PyProof.Rows.slot_tuple_iter.lookup ?_)
    refine wpAny_pure ?_
    simp only [Bool.false_eq_true, if_false]
    refine wpAny_bind (wpAny_holding (PyProof.Rows.iter_tuple hl ?_))
    refine wpAny_bind (wpAny_holding (PyProof.Rows.draw_tuple hlt i 0 _ _ ⟨_, Heap.get?_push_size _ rfl, rfl, rfl⟩ (hl.push _) (by omega) fun h₁ hit₁ hs₁ => ?_))
    have hl₁ : PyProof.Rows.IsTup h₁ a items := (hl.push _).extBut hs₁.extBut hlt
    rw [Nat.zero_add] at hit₁
    have hit₁' := hit₁
    obtain ⟨oi, hoi, _⟩ := hit₁'
    have hl₁' := hl₁
    obtain ⟨ol, hol, _⟩ := hl₁'
    rw [List.drop_zero]
    have hfl : (items.toList.take i).length = i := by rw [List.length_take, Array.length_toList]; omega
    rw [if_neg (show ¬ ((items.toList.take i).length < i) by rw [hfl]; omega)]
    refine wpAny_bind (wpAny_holding (PySem.W.kun_collect (s := { s with heap := h₁ }) (T := "tuple_iterator") (.inr (.inr (.inr rfl))) (Walks.tuple (A := A.in1) hh s.heap.objs.size a hlt items) (fun j u st => st.1.typeIs) (k := i) (by omega) ⟨hit₁, hl₁⟩ (Heap.lt_size hoi) (Heap.lt_size hol) (fun h₂ tk hk => ?_) hz))
    show wpAny _ _ (if (items.toList.drop i).length < n - 1 - i then _ else _) _ _ _
    rw [if_neg (by omega)]
    exact tail h₂ tk fun b o hb e => hk b o hb (hs₁.extBut b o hb (Heap.get?_push_of_some _ e))
end
/-- (x, .., *y) = a list or a tuple -/
def gStar (K : PySem.W.Frag) (i : Nat) (t : TGs) : TG := fun v σ H Q => ∃ a xs l, v = .ref a ∧ SqB l K H a xs ∧ i ≤ xs.length ∧ ∀ q, H q = none → t (xs.take i ++ [.ref q]) σ (upd H q (.lst (xs.drop i))) Q
theorem pg_star {X : Cx} {es es' : List Expr} {k : Nat} {pos : Pos} {t : TGs} {i : Nat} (hc : X.calm = true) (h : PGs X es' t) (hm : (assignEach es X.env).map (·.2) = (assignEach es' X.env).map (·.2) := by rfl)
    (hn : (assignEach es X.env).length = i + 1 := by rfl) (hst : (assignEach es X.env).findIdx? (·.1) = some i := by rfl) : PG X (.Tuple es k pos) (gStar X.K i t) := by
  refine ⟨fun pins s σ H v u Q I r hw => ?_⟩
  obtain ⟨a, xs, l, e1, hq, hi, hw⟩ := hw
  subst e1
  cases r
  obtain ⟨its, rv, hb, hz, _⟩ := invB I hq
  have hlen := rv.length
  rw [PyProof.Rows.assign_Tuple]
  refine wpAny_bind (wpAny_standAt ?_)
  unfold unpack
  rw [hn, hst]
  refine wpAny_bind (wpAny_holding (star_items hb (I.ok.hd hc) rfl (by simp; omega) (by simp; omega) fun h' tk hk => ?_))
  rw [hm]
  have I1 : Inv X pins σ H { s with heap := h', toks := tk } := I.kept hk
  have fr : H h'.objs.size = none := I1.hok.fresh (Nat.le_refl _)
  have I2 := I1.lnew (its := its.drop i) (t' := tk) (rv.drop i) (by rw [List.length_drop]; omega)
  have r2 : Vals (xs.take i ++ [V.ref h'.objs.size]) (its.take i ++ [Value.ref h'.objs.size]) := (rv.take i).append (.cons rfl .nil)
  exact h.run pins _ σ _ _ _ Q I2 (by simpa using r2) (hw _ fr)
/-- .. of data: the rest is a list that is shared -/
def gStarD (i : Nat) (t : TDGs) : TDG := fun d e Q => ∃ xs, seqD d = some xs ∧ i ≤ xs.length ∧ t (xs.take i ++ [.lst (xs.drop i)]) e Q
theorem dg_star {X : Cx} {ca : Str → Addr} {H0 : Hp} {es es' : List Expr} {k : Nat} {pos : Pos} {t : TDGs} {i : Nat} {ss : List Nat} (hc : X.calm = true) (h : DGs X ca H0 es' ss t) (hm : (assignEach es X.env).map (·.2) = (assignEach es' X.env).map (·.2) := by rfl)
    (hn : (assignEach es X.env).length = i + 1 := by rfl) (hst : (assignEach es X.env).findIdx? (·.1) = some i := by rfl) : DG X ca H0 (.Tuple es k pos) ss (gStarD i t) :=
  ⟨fun B => pg_imp (pg_star hc (h.pg B) hm hn hst) fun v σ H Q ⟨e, o, d, Q', R, hd, ⟨xs, hx, hi, q⟩, imp⟩ => by
    obtain ⟨l, p, vs, e1, h1, h2⟩ := seqB hd hx
    refine ⟨p, vs, l, e1, h1, by rw [← h2.length]; exact hi, fun q' hq' => ?_⟩
    have sm : Same H (upd H q' (.lst (vs.drop i))) := same_new hq'
    have h3 := DvL.mono (Stp.same sm) _ _ h2
    exact ⟨e, o, _, Q', R.grow sm, (h3.take i).append (.cons (d := D.lst (xs.drop i)) (Dv.newL (R.new hq') upd_same (h3.drop i)) .nil), q, fun e2 q2 σ2 H2 o2 R2 s2 l2 k2 => imp e2 q2 σ2 H2 o2 R2 ((Stp.same sm).trans s2) l2 k2⟩⟩
end DL
set_option Elab.async false
set_option linter.all false
set_option maxRecDepth 100000
set_option maxHeartbeats 4000000
/-! DZ: list(zip(a, b)) over lists and tuples in any mix -/
namespace DL
open PySem PySem.Spec L2

/-! ### zip while the tuple that it gave out is still there -/
section
variable {prog : Program} {w : World} {A : Around} {E : Value → Shared → Prop} {s : Shared} {z TI TO T i1 i2 : Addr} {fp1 fp2 : List Addr} {n1 n2 i : Nat} {P1 P2 : Nat → Value → Prop} {St1 St2 : Nat → Heap → Prop} {f : Bool} {oT : Obj}
theorem zipH_item {Q : Value → Shared → Prop} (S : ZipSep2 z TI TO i1 i2 fp1 fp2) (D1 : Draws prog w A i1 fp1 n1 P1 St1) (D2 : Draws prog w A i2 fp2 n2 P2 St2)
    (hz : IsZipHeld s.heap z TI TO T f) (hT : s.heap.get? T = some oT) (hTI : IsTupOf2 s.heap TI (.ref i1) (.ref i2)) (st1 : St1 i s.heap) (st2 : St2 i s.heap) (hlt1 : i < n1) (hlt2 : i < n2)
    (hQ : ∀ x1 x2 h' tk, P1 i x1 → P2 i x2 → IsZipHeld h' z TI TO T true → St1 (i + 1) h' → St2 (i + 1) h' → IsTupOf2 h' s.heap.objs.size x1 x2 → h'.objs.size = s.heap.objs.size + 1 →
      (∀ c o, c ≠ z → c ≠ i1 → c ≠ i2 → s.heap.get? c = some o → h'.get? c = some o) → Q (.ref s.heap.objs.size) { s with heap := h', toks := tk }) :
    wpAny (model prog w) A (Builtin.«zip.__next__» ⟨[.ref z], []⟩) (fun fin s' => ∃ v, fin = .done (.ret v) ∧ Q v s') E s := by
  obtain ⟨hp, g, d, tk0, os⟩ := s
  show wpAny _ _ (field (.ref z) 2 >>= _) _ _ _
  refine wpAny_bind (wpAny_field hz rfl (x := .bool false) rfl ?_)
  show wpAny _ _ (field (.ref z) 3 >>= _) _ _ _
  refine wpAny_bind (wpAny_field hz rfl (x := .ref TI) rfl ?_)
  refine wpAny_bind (wpAny_seqItems hTI rfl ?_)
  show wpAny _ _ (Builtin.SmallTypes.ownedTupleIsFree (.ref z) >>= _) _ _ _
  refine wpAny_bind (wpAny_tupleHeld_zip hz hT fun g0 hz0 hs0 => ?_)
  simp only [Bool.false_eq_true, if_false]
  refine wpAny_bind ?_
  rw [← Array.forIn_toList]
  simp only [List.forIn_cons, List.forIn_nil]
  refine wpAny_bind (wpAny_bind (wpAny_holding ?_))
  show wpAny _ _ (Builtin.SmallTypes.nextOf (.ref i1) >>= _) _ _ ⟨g0, g, d, tk0, os⟩
  refine wpAny_bind (D1.item i _ _ _ hlt1 (D1.over st1 hs0 S.zf1) fun x1 p1 tk1 hx1 sn1 hp1 => wpAny_pure ?_)
  replace hp1 : Heap.SameBut i1 g0 p1 := hp1
  refine wpAny_pure ?_
  refine wpAny_bind (wpAny_bind (wpAny_holding ?_))
  show wpAny _ _ (Builtin.SmallTypes.nextOf (.ref i2) >>= _) _ _ ⟨p1, g, d, tk1, os⟩
  refine wpAny_bind (D2.item i _ _ _ hlt2 (D2.over (D2.over st2 hs0 S.zf2) hp1 S.sep1_2) fun x2 p2 tk2 hx2 sn2 hp2 => wpAny_pure ?_)
  replace hp2 : Heap.SameBut i2 p1 p2 := hp2
  refine wpAny_pure (wpAny_pure ?_)
  show wpAny _ _ (newTuple [x1, x2] >>= _) _ _ _
  refine wpAny_bind (wpAny_newTuple ?_)
  have hsz : p2.objs.size = hp.objs.size := by rw [hp2.1, hp1.1, hs0.1]
  have hz₃ : IsZipHeld p2 z TI TO T true := hp2.extBut _ _ S.zi2 (hp1.extBut _ _ S.zi1 hz0)
  have hk : ∀ c o, c ≠ z → c ≠ i1 → c ≠ i2 → hp.get? c = some o → p2.get? c = some o := fun c o c1 c2 c3 e => hp2.extBut _ _ c3 (hp1.extBut _ _ c2 (hs0.extBut _ _ c1 e))
  have j1 : St1 (i + 1) p2 := D1.over sn1 hp2 S.sep2_1
  refine wpAny_pure ⟨_, rfl, ?_⟩
  show Q (.ref p2.objs.size) _
  have hpp : IsTupOf2 (p2.push { cls := .type "tuple", data := .seq #[x1, x2] }) p2.objs.size x1 x2 := Heap.get?_push_size _ rfl
  have hz4 : (p2.push { cls := .type "tuple", data := .seq #[x1, x2] }).objs.size = p2.objs.size + 1 := Heap.size_push ..
  rw [hsz] at hpp hz4 ⊢
  exact hQ x1 x2 _ tk2 hx1 hx2 (Heap.get?_push_of_some _ hz₃) (D1.frame _ _ _ j1 fun b _ o e => Heap.get?_push_of_some _ e) (D2.frame _ _ _ sn2 fun b _ o e => Heap.get?_push_of_some _ e) hpp hz4 fun c o c1 c2 c3 e => Heap.get?_push_of_some _ (hk c o c1 c2 c3 e)
theorem zipH_end {Q : Fin → Shared → Prop} (S : ZipSep2 z TI TO i1 i2 fp1 fp2) (D1 : Draws prog w A i1 fp1 n1 P1 St1) (D2 : Draws prog w A i2 fp2 n2 P2 St2)
    (hz : IsZipHeld s.heap z TI TO T f) (hT : s.heap.get? T = some oT) (hTI : IsTupOf2 s.heap TI (.ref i1) (.ref i2)) (st1 : St1 i s.heap) (st2 : St2 i s.heap) (hle1 : i ≤ n1) (hle2 : i ≤ n2) (hend : i = n1 ∨ i = n2)
    (hE : ∀ h' tk e, (∀ c o, c ≠ z → c ≠ i1 → c ≠ i2 → s.heap.get? c = some o → h'.get? c = some o) → (∃ o, h'.get? e = some o ∧ o.cls = .type "StopIteration") → E (.ref e) { s with heap := h', toks := tk }) :
    wpAny (model prog w) A (Builtin.«zip.__next__» ⟨[.ref z], []⟩) Q E s := by
  obtain ⟨hp, g, d, tk0, os⟩ := s
  show wpAny _ _ (field (.ref z) 2 >>= _) _ _ _
  refine wpAny_bind (wpAny_field hz rfl (x := .bool false) rfl ?_)
  show wpAny _ _ (field (.ref z) 3 >>= _) _ _ _
  refine wpAny_bind (wpAny_field hz rfl (x := .ref TI) rfl ?_)
  refine wpAny_bind (wpAny_seqItems hTI rfl ?_)
  show wpAny _ _ (Builtin.SmallTypes.ownedTupleIsFree (.ref z) >>= _) _ _ _
  refine wpAny_bind (wpAny_tupleHeld_zip hz hT fun g0 hz0 hs0 => ?_)
  simp only [Bool.false_eq_true, if_false]
  refine wpAny_bind ?_
  rw [← Array.forIn_toList]
  simp only [List.forIn_cons, List.forIn_nil]
  refine wpAny_bind (wpAny_bind (wpAny_holding ?_))
  show wpAny _ _ (Builtin.SmallTypes.nextOf (.ref i1) >>= _) _ _ ⟨g0, g, d, tk0, os⟩
  by_cases hlt1 : i < n1
  · refine wpAny_bind (D1.item i _ _ _ hlt1 (D1.over st1 hs0 S.zf1) fun x1 p1 tk1 hx1 sn1 hp1 => wpAny_pure ?_)
    replace hp1 : Heap.SameBut i1 g0 p1 := hp1
    have hi2 : i = n2 := by omega
    refine wpAny_pure ?_
    refine wpAny_bind (wpAny_bind (wpAny_holding ?_))
    show wpAny _ _ (Builtin.SmallTypes.nextOf (.ref i2) >>= _) _ _ ⟨p1, g, d, tk1, os⟩
    refine wpAny_bind (D2.done ⟨p1, g, d, tk1, os⟩ _ _ (by rw [← hi2]; exact (D2.over (D2.over st2 hs0 S.zf2) hp1 S.sep1_2)) fun q e hq he => ?_)
    replace hq : Heap.ExtBut i2 p1 q := hq
    exact hE q tk1 e (fun c o c1 c2 c3 x => hq _ _ c3 (hp1.extBut _ _ c2 (hs0.extBut _ _ c1 x))) he
  · have hi1 : i = n1 := by omega
    refine wpAny_bind (D1.done ⟨g0, g, d, tk0, os⟩ _ _ (by rw [← hi1]; exact (D1.over st1 hs0 S.zf1)) fun q e hq he => ?_)
    replace hq : Heap.ExtBut i1 g0 q := hq
    exact hE q tk0 e (fun c o c1 c2 _ x => hq _ _ c2 (hs0.extBut _ _ c1 x)) he
theorem nextH_item {Q : Option Value → Shared → Prop} (S : ZipSep2 z TI TO i1 i2 fp1 fp2) (D1 : Draws prog w A.in1 i1 fp1 n1 P1 St1) (D2 : Draws prog w A.in1 i2 fp2 n2 P2 St2)
    (hz : IsZipHeld s.heap z TI TO T f) (hT : s.heap.get? T = some oT) (hTI : IsTupOf2 s.heap TI (.ref i1) (.ref i2)) (st1 : St1 i s.heap) (st2 : St2 i s.heap) (hlt1 : i < n1) (hlt2 : i < n2)
    (hQ : ∀ x1 x2 h' tk, P1 i x1 → P2 i x2 → IsZipHeld h' z TI TO T true → St1 (i + 1) h' → St2 (i + 1) h' → IsTupOf2 h' s.heap.objs.size x1 x2 → h'.objs.size = s.heap.objs.size + 1 →
      (∀ c o, c ≠ z → c ≠ i1 → c ≠ i2 → s.heap.get? c = some o → h'.get? c = some o) → Q (some (.ref s.heap.objs.size)) { s with heap := h', toks := tk }) :
    wpAny (model prog w) A (pyNext (.ref z)) Q E s := by
  have hTy : s.TypeIs (.ref z) "zip" := ⟨_, hz, rfl⟩
  unfold pyNext
  exact wpAny_bind (wpAny_attempt (wpAny_callSpecial?_slot (name := Str.ofString "__next__") hTy F.slot_zip_next
    (wpAny_call_entry F.slot_zip_next hTy F.entry_zip_next
      (zipH_item S D1 D2 hz hT hTI st1 st2 hlt1 hlt2 fun x1 x2 h' tk a1 a2 a3 a4 a5 a6 a7 a8 => wpAny_pure (hQ x1 x2 h' tk a1 a2 a3 a4 a5 a6 a7 a8)) (F.args_zip_next_1 _))))
theorem nextH_end {Q : Option Value → Shared → Prop} (S : ZipSep2 z TI TO i1 i2 fp1 fp2) (D1 : Draws prog w A.in1 i1 fp1 n1 P1 St1) (D2 : Draws prog w A.in1 i2 fp2 n2 P2 St2)
    (hz : IsZipHeld s.heap z TI TO T f) (hT : s.heap.get? T = some oT) (hTI : IsTupOf2 s.heap TI (.ref i1) (.ref i2)) (st1 : St1 i s.heap) (st2 : St2 i s.heap) (hle1 : i ≤ n1) (hle2 : i ≤ n2) (hend : i = n1 ∨ i = n2)
    (hQ : ∀ h' tk, (∀ c o, c ≠ z → c ≠ i1 → c ≠ i2 → s.heap.get? c = some o → h'.get? c = some o) → Q none { s with heap := h', toks := tk }) : wpAny (model prog w) A (pyNext (.ref z)) Q E s := by
  have hTy : s.TypeIs (.ref z) "zip" := ⟨_, hz, rfl⟩
  unfold pyNext
  refine wpAny_bind (wpAny_attempt (wpAny_callSpecial?_slot (name := Str.ofString "__next__") hTy F.slot_zip_next
    (wpAny_call_entry F.slot_zip_next hTy F.entry_zip_next (zipH_end S D1 D2 hz hT hTI st1 st2 hle1 hle2 hend fun h' tk e hk he => ?_) (F.args_zip_next_1 _))))
  obtain ⟨o, ho, hc⟩ := he
  refine wpAny_bind (wpAny_isInstance (T := "StopIteration") (b := true) ⟨o, ho, hc⟩ isSubtype_stop ?_)
  exact wpAny_pure (hQ _ _ hk)
end
/-! ### list(zip(a, b)) -/
def ZHeap (l1 l2 : Bool) (z TI TO i1 i2 a b : Addr) (i : Nat) (h : Heap) : Prop :=
  (IsZip h z TI TO .none ∨ ∃ T f oT, IsZipHeld h z TI TO T f ∧ h.get? T = some oT) ∧ IsTupOf2 h TI (.ref i1) (.ref i2) ∧ (∃ x y, IsTupOf2 h TO x y) ∧ ItB l1 h i1 a i ∧ ItB l2 h i2 b i
theorem ZHeap.at {l1 l2 : Bool} {z TI TO i1 i2 a b : Addr} {i : Nat} {h h' : Heap} (g : ZHeap l1 l2 z TI TO i1 i2 a b i h) (k : ∀ c ∈ [z, TI, TO, i1, i2], ∀ o, h.get? c = some o → h'.get? c = some o) (kT : ∀ T o, h.get? T = some o → ∃ o', h'.get? T = some o') :
    ZHeap l1 l2 z TI TO i1 i2 a b i h' := by
  obtain ⟨hz, hTI, ⟨x, y, hTO⟩, h1, h2⟩ := g
  refine ⟨?_, k TI (by simp) _ hTI, ⟨x, y, k TO (by simp) _ hTO⟩, h1.at fun o q => k i1 (by simp) o q, h2.at fun o q => k i2 (by simp) o q⟩
  rcases hz with hz | ⟨T, f, oT, hz, hT⟩
  · exact .inl (k z (by simp) _ hz)
  · obtain ⟨o', h'⟩ := kT T oT hT
    exact .inr ⟨T, f, o', k z (by simp) _ hz, h'⟩
theorem SqB.same {l : Bool} {K : PySem.W.Frag} {H H' : Hp} {a : Addr} {xs : List V} (h : SqB l K H a xs) (s : Same H H') : SqB l K H' a xs := by
  cases l with
  | true =>
    rcases h with (h | ⟨o, h⟩) | h
    · exact .inl (.inl (s _ _ h))
    · exact .inl (.inr ⟨o, s _ _ h⟩)
    · exact .inr h
  | false =>
    rcases h with (h | ⟨o, h⟩) | h
    · exact .inl (.inl (s _ _ h))
    · exact .inl (.inr ⟨o, s _ _ h⟩)
    · exact .inr h
theorem zip_nolen : typeLookup (.type "zip") "__len__" = pure none := am_miss_of_fast (by decide +kernel)
theorem zip_nohint : typeLookup (.type "zip") "__length_hint__" = pure none := am_miss_of_fast (by decide +kernel)
def ZGood (xs ys : List V) (q : Addr) (H0 H : Hp) (ps : List Addr) : Prop := ∀ (j : Nat) (p : Addr), ps[j]? = some p → ∃ x y, xs[j]? = some x ∧ ys[j]? = some y ∧ H p = some (.tup [x, y]) ∧ H0 p = none ∧ p ≠ q
section
variable {X : Cx} {pins : List (Addr × Obj)} {σ : L2.St} {l1 l2 : Bool} {z TI TO i1 i2 a b q : Addr} {xs ys : List V} {H0 : Hp} {A1 : Around} {Rs : Result → Shared → Prop}
theorem zl_loop (hh : A1.in1.in1.handled = none) (D : ZipSep2 z TI TO i1 i2 [i1, a] [i2, b]) (hx : SqB l1 X.K H0 a xs) (hy : SqB l2 X.K H0 b ys) (hl1 : xs.length ≤ sizeLine) (h0q : H0 q = none)
    (hdone : ∀ ps H s, Inv X pins σ H s → Same H0 H → H q = some (.lst (ps.map V.ref)) → ps.length = min xs.length ys.length → ZGood xs ys q H0 H ps → Rs (.ok (.ret .none)) s) :
    ∀ (m i : Nat) (ps : List Addr) (H : Hp) (s : Shared), min xs.length ys.length - i = m → i ≤ min xs.length ys.length → ps.length = i → Inv X pins σ H s → Same H0 H → ZHeap l1 l2 z TI TO i1 i2 a b i s.heap → (∀ c ∈ [z, TI, TO, i1, i2], FpOk X pins H c) →
      H q = some (.lst (ps.map V.ref)) → ZGood xs ys q H0 H ps → codeAny (model X.prog X.w) A1 (.builtin "list.extend.loop" ⟨[.ref q, .ref z, .none], []⟩) Rs s := by
  intro m
  induction m with
  | zero =>
    intro i ps H s hm hi hps I sm st hf hq good
    obtain ⟨hz, hTI, ⟨x0, y0, hTO⟩, h1, h2⟩ := st
    have hqx := hx.same sm
    have hqy := hy.same sm
    obtain ⟨its, rv, p, _, _⟩ := invB I hqx
    obtain ⟨its2, rv2, p2, _, _⟩ := invB I hqy
    have e1 := rv.length
    have e2 := rv2.length
    have n1 : a ≠ i1 := ItB.ne I hqx h1 (hf i1 (by simp)).1
    have n2 : b ≠ i2 := ItB.ne I hqy h2 (hf i2 (by simp)).1
    refine codeAny_builtin PySem.F.entry_extend_loop ?_
    rw [Around.under_plainId PySem.F.plain_extend_loop _]
    show wpAny _ A1.in1 (pyNext (.ref z) >>= _) _ _ s
    refine wpAny_bind ?_
    have fin : ∀ h' tk, (∀ c o, c ≠ z → c ≠ TO → c ≠ i1 → c ≠ i2 → s.heap.get? c = some o → h'.get? c = some o) → Rs (.ok (.ret .none)) { s with heap := h', toks := tk } := fun h' tk hk =>
      hdone ps H _ (I.turnedL (ch := [z, TI, TO, i1, i2]) (fun c o hb q => hk c o (fun q' => hb (by simp [q'])) (fun q' => hb (by simp [q'])) (fun q' => hb (by simp [q'])) (fun q' => hb (by simp [q'])) q) hf) sm hq (by omega) good
    rcases hz with hz | ⟨T, f, oT, hz, hT⟩
    · exact wpAny_pyNext_zipD2_end D (drawsB l1 hh i1 a n1 its.toArray) (drawsB l2 hh i2 b n2 its2.toArray) hz hTI hTO ⟨h1, p⟩ ⟨h2, p2⟩ (by simp; omega) (by simp; omega) (by simp; omega) fun h' tk hk => wpAny_pure (fin h' tk hk)
    · exact nextH_end D (drawsB l1 hh i1 a n1 its.toArray) (drawsB l2 hh i2 b n2 its2.toArray) hz hT hTI ⟨h1, p⟩ ⟨h2, p2⟩ (by simp; omega) (by simp; omega) (by simp; omega) fun h' tk hk => wpAny_pure (fin h' tk fun c o c1 _ c2 c3 e => hk c o c1 c2 c3 e)
  | succ m ih =>
    intro i ps H s hm hi hps I sm st hf hq good
    obtain ⟨hz, hTI, ⟨x0, y0, hTO⟩, h1, h2⟩ := st
    have hqx := hx.same sm
    have hqy := hy.same sm
    obtain ⟨its, rv, p, _, _⟩ := invB I hqx
    obtain ⟨its2, rv2, p2, _, _⟩ := invB I hqy
    have e1 := rv.length
    have e2 := rv2.length
    have n1 : a ≠ i1 := ItB.ne I hqx h1 (hf i1 (by simp)).1
    have n2 : b ≠ i2 := ItB.ne I hqy h2 (hf i2 (by simp)).1
    have hzl : ∀ c ∈ [z, TI, TO, i1, i2], c < s.heap.objs.size := fun c hc => by
      have e' : c = z ∨ c = TI ∨ c = TO ∨ c = i1 ∨ c = i2 := by simpa using hc
      rcases e' with q | q | q | q | q
      · rw [q]; rcases hz with hz | ⟨_, _, _, hz, _⟩ <;> exact Heap.lt_size hz
      · rw [q]; exact Heap.lt_size hTI
      · rw [q]; exact Heap.lt_size hTO
      · rw [q]; obtain ⟨_, e1, _⟩ := h1.obj; exact Heap.lt_size e1
      · rw [q]; obtain ⟨_, e2, _⟩ := h2.obj; exact Heap.lt_size e2
    have hix : i < xs.length := by omega
    have hiy : i < ys.length := by omega
    obtain ⟨u, hu, ru⟩ := rv.get (List.getElem?_eq_getElem hix)
    obtain ⟨u2, hu2, ru2⟩ := rv2.get (List.getElem?_eq_getElem hiy)
    refine codeAny_builtin PySem.F.entry_extend_loop ?_
    rw [Around.under_plainId PySem.F.plain_extend_loop _]
    show wpAny _ A1.in1 (pyNext (.ref z) >>= _) _ _ s
    refine wpAny_bind ?_
    have step : ∀ (x1 x2 : Value) (h' : Heap) (tk : Nat), its.toArray[i]? = some x1 → its2.toArray[i]? = some x2 → (∃ T f oT, IsZipHeld h' z TI TO T f ∧ h'.get? T = some oT) → IsTupOf2 h' TI (.ref i1) (.ref i2) → (∃ x y, IsTupOf2 h' TO x y) → ItB l1 h' i1 a (i + 1) → ItB l2 h' i2 b (i + 1) →
        IsTupOf2 h' s.heap.objs.size x1 x2 → h'.objs.size = s.heap.objs.size + 1 → (∀ c o, c ≠ z → c ≠ TO → c ≠ i1 → c ≠ i2 → s.heap.get? c = some o → h'.get? c = some o) →
        wpAny (model X.prog X.w) A1.in1 (updateSeq q (·.push (Value.ref s.heap.objs.size)) >>= fun _ => again (.builtin "list.extend.loop" ⟨[.ref q, .ref z, .none], []⟩))
          (fun fin s' => match fin with | .done f => Rs (.ok f) s' | .again c' => c'.quiet = true ∧ codeAny (model X.prog X.w) A1 c' Rs s') (fun e s' => Rs (.error e) s') { s with heap := h', toks := tk } := by
      intro x1 x2 h' tk q1 q2 hz' hTI' hTO' h1' h2' hT hsz hk
      have e3 : x1 = u := by
        have q1' : its[i]? = some x1 := by simpa using q1
        rw [hu] at q1'
        exact (Option.some.inj q1').symm
      have e4 : x2 = u2 := by
        have q2' : its2[i]? = some x2 := by simpa using q2
        rw [hu2] at q2'
        exact (Option.some.inj q2').symm
      subst e3 e4
      have fr : H s.heap.objs.size = none := I.hok.fresh (Nat.le_refl _)
      have new : ObjOk X.prog X.w (upd H s.heap.objs.size (.tup [xs[i], ys[i]])) h' s.heap.objs.size (.tup [xs[i], ys[i]]) :=
        ⟨by show 2 ≤ sizeLine; decide, [x1, x2], .cons ru (.cons ru2 .nil), ⟨_, hT, rfl, _, rfl⟩⟩
      have I1 : Inv X pins σ (upd H s.heap.objs.size (.tup [xs[i], ys[i]])) { s with heap := h', toks := tk } :=
        I.turnedNew (ch := [z, TI, TO, i1, i2]) (fun c o hb q => hk c o (fun q' => hb (by simp [q'])) (fun q' => hb (by simp [q'])) (fun q' => hb (by simp [q'])) (fun q' => hb (by simp [q'])) q) hf (Nat.le_refl _) new
      have hne : q ≠ s.heap.objs.size := ne_of_none hq fr
      have hq1 : upd H s.heap.objs.size (.tup [xs[i], ys[i]]) q = some (.lst (ps.map V.ref)) := by rw [upd_ne hne]; exact hq
      obtain ⟨zz, its3, k3, r3, hl3, e5⟩ := I1.lstM hq1
      have hlen : its3.length = ps.length := by rw [← hl3, List.length_map]
      refine wpAny_bind (wpAny_updateSeq e5 rfl (wpAny_pure ⟨plainId_quiet PySem.F.plain_extend_loop _, ?_⟩) (by rw [List.size_toArray, hlen]; omega) (by show (its3.toArray.push (Value.ref s.heap.objs.size)).size ≤ sizeLine + 1; rw [Array.size_push, List.size_toArray, hlen]; omega))
      have ev : ps.map V.ref ++ [V.ref s.heap.objs.size] = (ps ++ [s.heap.objs.size]).map V.ref := by rw [List.map_append] <;> rfl
      have I2 := I1.lset (f := (·.push (Value.ref s.heap.objs.size))) (its' := its3 ++ [Value.ref s.heap.objs.size]) (ys := (ps ++ [s.heap.objs.size]).map V.ref) (t' := tk) hq1 e5 (by simp) (by rw [← ev]; exact r3.append (.cons rfl .nil)) (by rw [List.length_map, List.length_append, List.length_singleton]; omega)
      have hcne : ∀ c ∈ [z, TI, TO, i1, i2], c ≠ q := fun c hc e => by
        have := (hf c hc).1
        rw [e, hq] at this
        cases this
      refine ih (i + 1) (ps ++ [s.heap.objs.size]) _ _ (by omega) (by omega) (by rw [List.length_append, hps] <;> rfl) I2 ?_ ?_ ?_ upd_same ?_
      · intro b' u' hb'
        have h3 : b' ≠ q := ne_of_none hb' h0q
        rw [upd_ne h3, upd_ne (ne_of_none (sm _ _ hb') fr)]
        exact sm _ _ hb'
      · refine ZHeap.at (h := h') ⟨.inr hz', hTI', hTO', h1', h2'⟩ (fun c hc o e => (Heap.get?_update_other _ _ (Ne.symm (hcne c hc))).trans e) fun T o e => ?_
        by_cases hTq : T = q
        · subst hTq
          exact ⟨_, Heap.get?_update_self _ e5 rfl⟩
        · exact ⟨o, (Heap.get?_update_other _ _ (Ne.symm hTq)).trans e⟩
      · intro c hc
        refine ⟨?_, (hf c hc).2⟩
        rw [upd_ne (hcne c hc), upd_ne (Nat.ne_of_lt (hzl c hc))]
        exact (hf c hc).1
      · intro j p hj
        by_cases hjl : j < ps.length
        · rw [List.getElem?_append_left hjl] at hj
          obtain ⟨x, y, g1, g2, g3, g4, g5⟩ := good j p hj
          exact ⟨x, y, g1, g2, by rw [upd_ne g5, upd_ne (ne_of_none g3 fr)]; exact g3, g4, g5⟩
        · rw [List.getElem?_append_right (by omega)] at hj
          have hj0 : j - ps.length = 0 := by
            by_cases h0 : j - ps.length = 0
            · exact h0
            · rw [List.getElem?_eq_none (by simp; omega)] at hj
              cases hj
          have hji : j = i := by omega
          subst hji
          rw [hj0] at hj
          have hp : s.heap.objs.size = p := by simpa using hj
          subst hp
          exact ⟨xs[j], ys[j], List.getElem?_eq_getElem hix, List.getElem?_eq_getElem hiy, by rw [upd_ne (Ne.symm hne), upd_same], sm.free fr, Ne.symm hne⟩
    rcases hz with hz | ⟨T, f, oT, hz, hT⟩
    · refine wpAny_pyNext_zipD2_item D (drawsB l1 hh i1 a n1 its.toArray) (drawsB l2 hh i2 b n2 its2.toArray) hz hTI hTO ⟨h1, p⟩ ⟨h2, p2⟩
        (by have := (List.getElem?_eq_some_iff.mp hu).1; simpa using this) (by have := (List.getElem?_eq_some_iff.mp hu2).1; simpa using this) fun x1 x2 h' tk q1 q2 z' TO' h1' h2' hT hsz hk => ?_
      exact step x1 x2 h' tk q1 q2 ⟨_, _, _, z', hT⟩ (hk _ _ D.TIz D.TITO D.TIi1 D.TIi2 hTI) ⟨_, _, TO'⟩ h1'.1 h2'.1 hT hsz hk
    · refine nextH_item D (drawsB l1 hh i1 a n1 its.toArray) (drawsB l2 hh i2 b n2 its2.toArray) hz hT hTI ⟨h1, p⟩ ⟨h2, p2⟩
        (by have := (List.getElem?_eq_some_iff.mp hu).1; simpa using this) (by have := (List.getElem?_eq_some_iff.mp hu2).1; simpa using this) fun x1 x2 h' tk q1 q2 z' h1' h2' hT2 hsz hk => ?_
      have hTz : ∃ o, h'.get? T = some o := by
        by_cases c1 : T = z
        · rw [c1]; exact ⟨_, z'⟩
        · by_cases c2 : T = i1
          · rw [c2]; obtain ⟨o, e, _⟩ := h1'.1.obj; exact ⟨o, e⟩
          · by_cases c3 : T = i2
            · rw [c3]; obtain ⟨o, e, _⟩ := h2'.1.obj; exact ⟨o, e⟩
            · exact ⟨oT, hk T oT c1 c2 c3 hT⟩
      obtain ⟨o', hTz⟩ := hTz
      exact step x1 x2 h' tk q1 q2 ⟨_, _, _, z', hTz⟩ (hk _ _ D.TIz D.TIi1 D.TIi2 hTI) ⟨_, _, hk _ _ D.TOz D.Ti1 D.Ti2 hTO⟩ h1'.1 h2'.1 hT2 hsz fun c o c1 _ c2 c3 e => hk c o c1 c2 c3 e
end
def tListZip (K : PySem.W.Frag) (ta : TA) : TE := fun σ H Q => ta σ H fun vs H1 => ∃ a b xs ys l1 l2, vs = [.ref a, .ref b] ∧ SqB l1 K H1 a xs ∧ SqB l2 K H1 b ys ∧
  ∀ q ps H2, H1 q = none → Same H1 H2 → H2 q = some (.lst (ps.map V.ref)) → ps.length = min xs.length ys.length → ZGood xs ys q H1 H2 ps → Q (.ref q) H2
section
variable {X : Cx} {pins : List (Addr × Obj)} {σ : L2.St} {H : Hp} {s : Shared}
theorem listzip_call {Q : VK} {l1 l2 : Bool} {z TI TO i1 i2 a b : Addr} {xs ys : List V} (hc : X.calm = true) (I : Inv X pins σ H s) (D : ZipSep2 z TI TO i1 i2 [i1, a] [i2, b]) (hz : IsZip s.heap z TI TO .none) (st : ZHeap l1 l2 z TI TO i1 i2 a b 0 s.heap) (hf : ∀ c ∈ [z, TI, TO, i1, i2], FpOk X pins H c)
    (hx : SqB l1 X.K H a xs) (hy : SqB l2 X.K H b ys) (hl1 : xs.length ≤ sizeLine) (h : ∀ q ps H2, H q = none → Same H H2 → H2 q = some (.lst (ps.map V.ref)) → ps.length = min xs.length ys.length → ZGood xs ys q H H2 ps → Q (.ref q) H2) :
    wpAny (model X.prog X.w) X.A (call (.type "list") [.ref z]) (EP X pins σ Q) X.xe s := by
  refine callType_codes (Q₁ := fun obj s₁ => obj = .ref s.heap.objs.size ∧ s₁ = { s with heap := s.heap.push { cls := .type "list", data := .seq #[] } }) PySem.F.called_list (PySem.F.typeCall_list_1 _) PySem.F.entry_list_init
    (PySem.code_list_new _ ⟨rfl, rfl⟩) fun obj s₁ h₁ => ?_
  obtain ⟨rfl, rfl⟩ := h₁
  have hS : (s.heap.push { cls := .type "list", data := .seq #[] }).get? s.heap.objs.size = some { cls := .type "list", data := .seq #[] } := Heap.get?_push_size _ rfl
  refine ⟨⟨_, hS, rfl⟩, PySem.F.args_list_init_2 _ _, ?_⟩
  have fr : H s.heap.objs.size = none := I.hok.fresh (Nat.le_refl _)
  have I1 : Inv X pins σ (upd H s.heap.objs.size (.lst [])) { s with heap := s.heap.push { cls := .type "list", data := .seq #[] } } := I.lnew (its := []) (t' := s.toks) .nil (Nat.zero_le _)
  have hlt : ∀ c ∈ [z, TI, TO, i1, i2], c < s.heap.objs.size := fun c hc => by
    obtain ⟨_, hTI, ⟨x0, y0, hTO⟩, h1, h2⟩ := st
    have e' : c = z ∨ c = TI ∨ c = TO ∨ c = i1 ∨ c = i2 := by simpa using hc
    rcases e' with q | q | q | q | q
    · rw [q]; exact Heap.lt_size hz
    · rw [q]; exact Heap.lt_size hTI
    · rw [q]; exact Heap.lt_size hTO
    · rw [q]; obtain ⟨_, e1, _⟩ := h1.obj; exact Heap.lt_size e1
    · rw [q]; obtain ⟨_, e2, _⟩ := h2.obj; exact Heap.lt_size e2
  have hf1 : ∀ c ∈ [z, TI, TO, i1, i2], FpOk X pins (upd H s.heap.objs.size (.lst [])) c := fun c hc => ⟨by rw [upd_ne (Nat.ne_of_lt (hlt c hc))]; exact (hf c hc).1, (hf c hc).2⟩
  show wpAny _ _ (do let old ← Builtin.List.listItems (.ref s.heap.objs.size); Builtin.List.listUpdate (.ref s.heap.objs.size) (fun _ => #[]); letGo old.toList.reverse; Builtin.List.listExtendWith (.ref s.heap.objs.size) (.ref z) .none) _ _ _
  refine wpAny_bind ?_
  unfold Builtin.List.listItems
  refine wpAny_bind (wpAny_seqItems hS rfl (wpAny_pure ?_))
  show wpAny _ _ (updateSeq s.heap.objs.size (fun _ => #[]) >>= fun _ => letGo (#[] : Array Value).toList.reverse >>= fun _ => Builtin.List.listExtendWith (.ref s.heap.objs.size) (.ref z) .none) _ _ _
  refine wpAny_bind (wpAny_updateSeq hS rfl ?_)
  have I2 := I1.lset (f := fun _ => #[]) (its := []) (its' := []) (ys := []) (t' := s.toks) upd_same hS rfl .nil (Nat.zero_le _)
  rw [upd_upd] at I2
  refine wpAny_bind (wpAny_letGo ?_)
  have hup : ∀ c, c < s.heap.objs.size → ∀ o, s.heap.get? c = some o → ((s.heap.push { cls := .type "list", data := .seq #[] }).update s.heap.objs.size (Obj.mapSeq fun _ => (#[] : Array Value))).get? c = some o := fun c hc o e =>
    (Heap.get?_update_other _ _ (Nat.ne_of_gt hc)).trans (Heap.get?_push_of_some _ e)
  have hz2 := hup z (hlt z (by simp)) _ hz
  have hzz : s.heap.objs.size ≠ z := Nat.ne_of_gt (hlt z (by simp))
  have st2 : ZHeap l1 l2 z TI TO i1 i2 a b 0 ((s.heap.push { cls := .type "list", data := .seq #[] }).update s.heap.objs.size (Obj.mapSeq fun _ => (#[] : Array Value))) := by
    obtain ⟨_, hTI, ⟨x0, y0, hTO⟩, h1, h2⟩ := st
    exact ⟨.inl hz2, hup TI (hlt TI (by simp)) _ hTI, ⟨x0, y0, hup TO (hlt TO (by simp)) _ hTO⟩, h1.at (hup i1 (hlt i1 (by simp))), h2.at (hup i2 (hlt i2 (by simp)))⟩
  have hloop : ∀ (H3 : Hp) (s3 : Shared), H3 = upd H s.heap.objs.size (.lst []) → Inv X pins σ H3 s3 → ZHeap l1 l2 z TI TO i1 i2 a b 0 s3.heap → codeAny (model X.prog X.w) X.A.in1 (.builtin "list.extend.loop" ⟨[.ref s.heap.objs.size, .ref z, .none], []⟩) (wants (fun r s₂ => r = .none ∧ EP X pins σ Q (.ref s.heap.objs.size) s₂) X.xe) s3 := by
    intro H3 s3 e3 I3 st3
    subst e3
    exact zl_loop (H0 := H) (A1 := X.A.in1) (I.ok.hd hc) D hx hy hl1 fr (fun ps H4 s4 I4 sm4 hq4 hl4 g4 => ⟨rfl, .ref s.heap.objs.size, H4, I4, rfl, h _ ps H4 fr sm4 hq4 hl4 g4⟩) _ 0 [] _ s3 rfl (Nat.zero_le _) rfl I3 (same_new fr) st3 hf1 upd_same
      (fun j p hj => by simp at hj)
  unfold Builtin.List.listExtendWith
  refine wpAny_bind (wpAny_typeOf (T := "zip") ⟨_, hz2, rfl⟩ ?_)
  have h1 : Builtin.List.listSameRef (.ref s.heap.objs.size) (.ref z) = false := by simp [Builtin.List.listSameRef, hzz]
  have h2 : (Value.type "zip" == Value.type "list") = false := by decide
  have h3 : (Value.type "zip" == Value.type "tuple") = false := by decide
  simp only [h1, h2, h3, Bool.or_false, Bool.false_eq_true, if_false]
  refine wpAny_bind (wpAny_pyIter_zip hz2 ?_)
  refine wpAny_bind (wpAny_holding ?_)
  unfold Builtin.List.listLengthHint
  refine wpAny_bind (wpAny_specialOf (T := "zip") ⟨_, hz2, rfl⟩ zip_nolen ?_)
  show wpAny _ _ (specialOf (Value.ref z) (Str.ofString "__length_hint__") >>= _) _ _ _
  refine wpAny_bind (wpAny_specialOf (T := "zip") ⟨_, hz2, rfl⟩ zip_nohint ?_)
  refine wpAny_pure ?_
  refine wpAny_ite_split (fun _ => ?_) (fun _ => wpAny_pure ⟨plainId_quiet PySem.F.plain_extend_loop _, hloop _ _ rfl I2 st2⟩)
  obtain ⟨zz, its, k, r3, hl3, e3⟩ := I2.lstM upd_same
  cases r3
  refine wpAny_bind (wpAny_rule ?_)
  refine wpAny_bind ?_
  show wpAny _ _ (updateSeq s.heap.objs.size (·.push .none) >>= fun _ => updateSeq s.heap.objs.size (·.pop)) _ _ _
  refine wpAny_bind (wpAny_updateSeq e3 rfl ?_)
  have I3 := I2.lset (f := (·.push Value.none)) (its' := [Value.none]) (ys := [.non]) (t' := s.toks) upd_same e3 (by simp) (.cons rfl .nil) (by rw [List.length_singleton, sizeLine_eq]; decide)
  obtain ⟨z4, its4, k4, r4, hl4, e4⟩ := I3.lstM upd_same
  obtain ⟨u4, rfl, ru4⟩ := r4.one
  refine wpAny_updateSeq e4 rfl ?_ (by show 1 ≤ sizeLine; rw [sizeLine_eq]; decide) (by show 0 ≤ sizeLine + 1; exact Nat.zero_le _)
  have I4 := I3.lset (f := (·.pop)) (its := [u4]) (its' := []) (ys := []) (t' := s.toks) upd_same e4 (by rfl) .nil (Nat.zero_le _)
  rw [upd_upd, upd_upd] at I4
  refine wpAny_pure ⟨plainId_quiet PySem.F.plain_extend_loop _, hloop _ _ rfl I4 ?_⟩
  exact st2.at (fun c hc o e => (Heap.get?_update_other _ _ (Nat.ne_of_gt (hlt c hc))).trans ((Heap.get?_update_other _ _ (Nat.ne_of_gt (hlt c hc))).trans e)) fun T o e => by
    by_cases hT : T = s.heap.objs.size
    · subst hT
      exact ⟨_, Heap.get?_update_self _ e4 rfl⟩
    · exact ⟨o, (Heap.get?_update_other _ _ (Ne.symm hT)).trans ((Heap.get?_update_other _ _ (Ne.symm hT)).trans e)⟩
/-- list(zip(e, e2)) -/
theorem pe_listzip {e e2 : Expr} {ta : TA} {p p2 pos pos2 : Pos} (hc : X.calm = true) (hg : Gl X "zip") (hm : X.mg "zip" = none) (hg2 : Gl X "list") (hm2 : X.mg "list" = none) (ha : PA X [e, e2] ta)
    (hs : starEach [e, e2] X.env = (false, eval e X.env) :: starEach [e2] X.env := by rfl) (hpl : (backTo pos (starEach [e2] X.env)).any (·.1) = false := by rfl)
    (hs2 : starEach [.Call (.Name "zip" p) [e, e2] [] pos] X.env = (false, eval (.Call (.Name "zip" p) [e, e2] [] pos) X.env) :: starEach [] X.env := by rfl) :
    PE X (.Call (.Name "list" p2) [.Call (.Name "zip" p) [e, e2] [] pos] [] pos2) (tListZip X.K ta) := by
  refine ⟨fun pins s σ H Q I h => ?_⟩
  refine PyProof.Rows.Call_ (ld_blt I hg2 hm2 PyProof.Rows.boot_list (PyProof.Rows.callWith_type1 ?_ hs2 rfl))
  rw [hs2]
  refine Calls.spliced_cons ?_
  refine PyProof.Rows.Call_ (ld_blt I hg hm PyProof.Rows.boot_zip (PyProof.Rows.callWith_type1 (thn (ha.run pos pins s σ H _ I h) fun us s1 ⟨vs, H1, I1, r1, q1⟩ => ?_) hs hpl))
  obtain ⟨a, b, xs, ys, l1, l2, ex, hqx, hqy, q⟩ := q1
  subst ex
  cases r1 with
  | cons r rr =>
    cases rr with
    | cons r' rr =>
      cases rr
      cases r
      cases r'
      obtain ⟨its, rv, p1, lz, la⟩ := invB I1 hqx
      obtain ⟨its2, rv2, p2, lz2, lb⟩ := invB I1 hqy
      refine zip_begins2 (beginsB l1 a its.toArray) (beginsB l2 b its2.toArray) p1 p2 fun h' hz hTI hTO h1 h2 hsz hk => ?_
      have I2 : Inv X pins σ H1 { s1 with heap := h' } := I1.kept (t' := s1.toks) hk
      have D := zip_sep2 (fp1 := [a]) (fp2 := [b]) (mem_one la) (mem_one lb)
      refine Calls.spliced_nil ?_
      refine listzip_call hc I2 D hz ⟨.inl hz, hTI, ⟨_, _, hTO⟩, ItB.start h1, ItB.start h2⟩ (fun c hcm => ?_) hqx hqy lz q
      have e' : c = s1.heap.objs.size + 4 ∨ c = s1.heap.objs.size + 2 ∨ c = s1.heap.objs.size + 3 ∨ c = s1.heap.objs.size ∨ c = s1.heap.objs.size + 1 := by simpa using hcm
      have hle : s1.heap.objs.size ≤ c := by
        rcases e' with z | z | z | z | z
        · rw [z]; exact Nat.le_add_right _ _
        · rw [z]; exact Nat.le_add_right _ _
        · rw [z]; exact Nat.le_add_right _ _
        · rw [z]; exact Nat.le_refl _
        · rw [z]; exact Nat.le_add_right _ _
      exact I1.fpOk hle (I1.hok.fresh hle)
end
end DL
set_option Elab.async false
set_option linter.all false
set_option maxRecDepth 100000
set_option maxHeartbeats 4000000
/-! DM: truth, fields, subscripts, slices, a frame's own lists changed, built-ins -/
namespace DL
open PySem PySem.Spec L2

/-! ### truth -/
def truD : D → Option Bool
  | .non => some false
  | .bl b => some b
  | .int i => some (i != 0)
  | .str y => if y.length ≤ sizeLine then some ((y.length : Int) != 0) else none
  | .lst xs => some (!xs.isEmpty)
  | .klst xs => some (!xs.isEmpty)
  | .tup xs => some (!xs.isEmpty)
  | _ => none
def dTru (t : TDO) : TDT := fun e Q => t e fun a e' => ∃ d b, look e' a = some d ∧ truD d = some b ∧ Q b e'
section
variable {X : Cx} {ca : Str → Addr} {H0 : Hp} {x y z : Expr} {pos p p2 pos2 : Pos} {K : PySem.W.Frag} {H : Hp} {k : Addr → Prop} {es : List Expr} {st : Stmt}
theorem isEmpty_len {α β : Type} {l : List α} {m : List β} (h : l.length = m.length) : l.isEmpty = m.isEmpty := by
  cases l <;> cases m <;> first | rfl | cases h
theorem tru_of {d : D} {v : V} {b : Bool} (h : DvW K ca H k d v) (e : truD d = some b) : TruV K v H b := by
  cases d with
  | non =>
    have e1 : false = b := Option.some.inj e
    rw [h.non]
    exact e1.symm
  | bl c =>
    have e1 : c = b := Option.some.inj e
    rw [h.bl]
    exact e1.symm
  | int i =>
    have e1 : (i != 0) = b := Option.some.inj e
    rw [h.int]
    exact e1.symm
  | str s =>
    have e1 : (if s.length ≤ sizeLine then some ((s.length : Int) != 0) else none) = some b := e
    rw [h.str]
    split at e1
    · exact ⟨by assumption, (Option.some.inj e1).symm⟩
    · cases e1
  | lst xs =>
    have e1 : (!xs.isEmpty) = b := Option.some.inj e
    obtain ⟨p, vs, e2, h1, h2⟩ := h.ls (xs := xs) rfl
    rw [e2]
    exact .inl ⟨vs, h1, by rw [← e1, isEmpty_len h2.length]⟩
  | klst xs =>
    have e1 : (!xs.isEmpty) = b := Option.some.inj e
    obtain ⟨p, vs, e2, h1, h2⟩ := h.ls (xs := xs) rfl
    rw [e2]
    exact .inl ⟨vs, h1, by rw [← e1, isEmpty_len h2.length]⟩
  | tup xs =>
    have e1 : (!xs.isEmpty) = b := Option.some.inj e
    obtain ⟨p, vs, e2, h1, h2⟩ := h.tup
    rw [e2]
    exact .inr (.inl ⟨vs, h1, by rw [← e1, isEmpty_len h2.length]⟩)
  | _ => cases e
theorem dt_tru {t : TDO} (h : DO X ca H0 x t) (he : ∀ whole, isTrue x X.env whole = (do let v ← whole; standAt x.pos; holding [v] (truthy v)) := by intro _; rfl) : DT X ca H0 x (dTru t) :=
  ⟨fun B => pt_imp (pt_truth (h.pe B) he) fun σ H Q ⟨e, o, Q', R, q, imp⟩ => ⟨e, o, _, R, q, fun a e1 ⟨d, b, hl, hb, q1⟩ v H1 o1 R1 s1 h1 => ⟨b, tru_of (R1.look h1 hl) hb, imp b e1 q1 H1 o1 R1 s1⟩⟩⟩

/-! ### fields -/
def zipLook {α : Type} : List Str → List α → Str → Option α
  | n :: ns, x :: xs, f => if f == n then some x else zipLook ns xs f
  | _, _, _ => none
def dFld (c f : Str) (t : TD) : TD := fun e Q => t e fun d e' => ∃ ns ds x, d = .obj c ns ds ∧ zipLook ns ds f = some x ∧ Q x e'
theorem zipLook_dv {f : Str} {x : D} : ∀ {ns : List Str} {ds : List D} {vs : List V}, DvL K ca H k ds vs → ns.length = vs.length → zipLook ns ds f = some x → ∃ v, (ns.zip vs).lookup f = some v ∧ Dv K ca H k x v
  | [], ds, vs, _, _, h => by cases ds <;> cases h
  | n :: ns, [], vs, _, _, h => by cases h
  | n :: ns, d :: ds, vs, hd, hl, h => by
    obtain ⟨v, r, e, h1, h2⟩ := hd
    subst e
    have h' : (if f == n then some d else zipLook ns ds f) = some x := h
    rw [List.zip_cons_cons, List.lookup_cons]
    split at h'
    · rename_i hf
      have e1 : d = x := Option.some.inj h'
      subst e1
      rw [hf]
      exact ⟨v, rfl, h1⟩
    · rename_i hf
      have hf : (f == n) = false := by simpa using hf
      rw [hf]
      exact zipLook_dv h2 (by simpa using hl) h'
theorem de_fld {c f : Str} {t : TD} (h : DE X ca H0 x t) (hc : Cls X.K (ca c)) (hn : NoAttr X.K (ca c) f) (hb : attributeBase x f X.env (eval x X.env) = eval x X.env := by rfl) : DE X ca H0 (.Attribute x f pos) (dFld c f t) :=
  ⟨fun B => pe_imp (pe_fld (h.pe B) hb) fun σ H Q ⟨e, o, Q', R, q, imp⟩ => ⟨e, o, _, R, q, fun d e1 ⟨ns, ds, x, ed, hl, q1⟩ v H1 o1 R1 s1 h1 => by
    subst ed
    obtain ⟨p, dx, vs, e2, hk, hp, hnl, hd⟩ := h1
    obtain ⟨w, e3, hw⟩ := zipLook_dv hd hnl hl
    exact ⟨p, ca c, dx, _, w, e2, hp, hc, hn, e3, imp x e1 q1 w H1 o1 R1 s1 hw⟩⟩⟩

/-! ### subscripts -/
def fIx : D → D → Option D
  | .lst xs, .int i => atI xs i
  | .klst xs, .int i => atI xs i
  | .tup xs, .int i => atI xs i
  | .str z, .int i => if z.length ≤ sizeLine then (atI z.cps.toList i).map fun c => D.str ⟨#[c]⟩ else none
  | _, _ => none
theorem atI_dv {xs : List D} {vs : List V} {i : Int} {d : D} (h : DvL K ca H k xs vs) (e : atI xs i = some d) : ∃ v, atI vs i = some v ∧ Dv K ca H k d v := by
  unfold atI at e ⊢
  rw [← h.length]
  cases q : ixN xs.length i with
  | none => rw [q] at e; cases e
  | some j =>
    rw [q] at e
    exact h.get e
theorem od_ix : OpD K ca fIx (rIx K) := by
  intro H k a b c v u Q hk ha hb hf hQ
  match a, b, hf with
  | .lst xs, .int i, hf =>
    obtain ⟨p, vs, e1, h1, h2⟩ := ha.ls (xs := xs) rfl
    obtain ⟨w, e2, hw⟩ := atI_dv h2 hf
    exact .inl ⟨p, vs, i, w, e1, hb.int, h1, e2, hQ _ _ (Same.refl _) hw⟩
  | .klst xs, .int i, hf =>
    obtain ⟨p, vs, e1, h1, h2⟩ := ha.ls (xs := xs) rfl
    obtain ⟨w, e2, hw⟩ := atI_dv h2 hf
    exact .inl ⟨p, vs, i, w, e1, hb.int, h1, e2, hQ _ _ (Same.refl _) hw⟩
  | .tup xs, .int i, hf =>
    obtain ⟨p, vs, e1, h1, h2⟩ := ha.tup
    obtain ⟨w, e2, hw⟩ := atI_dv h2 hf
    exact .inr (.inl ⟨p, vs, i, w, e1, hb.int, h1, e2, hQ _ _ (Same.refl _) hw⟩)
  | .str z, .int i, hf =>
    have hf' : (if z.length ≤ sizeLine then (atI z.cps.toList i).map fun c => D.str ⟨#[c]⟩ else none) = some c := hf
    split at hf'
    · cases q : atI z.cps.toList i with
      | none => rw [q] at hf'; cases hf'
      | some ch =>
        rw [q] at hf'
        have e1 : D.str ⟨#[ch]⟩ = c := Option.some.inj hf'
        subst e1
        exact .inr (.inr ⟨z, i, ch, ha.str, hb.int, by assumption, q, hQ _ _ (Same.refl _) rfl⟩)
    · cases hf'
theorem de_ix {ta tb : TDO} (ha : DO X ca H0 x ta) (hb : DO X ca H0 y tb) (hs : PlainIx y := by intro _ _; rfl) : DE X ca H0 (.Subscript x y pos) (dOp fIx ta tb) :=
  ⟨fun B => pe_imp (pe_ix ix_seq (ha.pe B) (hb.pe B) hs) (le_op od_ix)⟩

/-! ### slices -/
abbrev TDP := DEnv → (Option Int → DEnv → Prop) → Prop
def LPO (K : PySem.W.Frag) (ca : Str → Addr) (H0 : Hp) (B : Addr → Prop) (t : TDP) : TO := fun σ H Q => ∃ e o Q', Rep K ca B H0 H σ e o ∧ t e Q' ∧ ∀ i e', Q' i e' → ∀ H' o', Rep K ca B H0 H' σ e' o' → Stp (okN e o) H (okN e' o') H' → Q i H'
structure DPO (X : Cx) (ca : Str → Addr) (H0 : Hp) (x : Option Expr) (t : TDP) : Prop where
  po : ∀ B, PO X x (LPO X.K ca H0 B t)
theorem po_imp {e : Option Expr} {t t' : TO} (h : PO X e t) (w : ∀ σ H Q, t' σ H Q → t σ H Q) : PO X e t' := ⟨fun pins s σ H Q I q => h.run pins s σ H Q I (w σ H Q q)⟩
def dNoPart : TDP := fun e Q => Q none e
def dPart (t : TDO) : TDP := fun e Q => t e fun a e' => ∃ i, look e' a = some (.int i) ∧ Q (some i) e'
theorem dpo_none : DPO X ca H0 none dNoPart := ⟨fun B => po_imp po_none fun σ H Q ⟨e, o, Q', R, q, imp⟩ => imp none e q H o R Stp.refl⟩
theorem dpo_some {t : TDO} (h : DO X ca H0 x t) : DPO X ca H0 (some x) (dPart t) := ⟨fun B => po_imp (po_some (h.pe B)) fun σ H Q ⟨e, o, Q', R, q, imp⟩ => ⟨e, o, _, R, q, fun a e1 ⟨i, hl, q1⟩ v H1 o1 R1 s1 h1 => ⟨i, (R1.look h1 hl).int, imp (some i) e1 q1 H1 o1 R1 s1⟩⟩⟩
def cutD (xs : List D) (lo hi : Option Int) : List D := (xs.drop (HT.sIx xs.length 0 lo)).take (HT.sIx xs.length xs.length hi - HT.sIx xs.length 0 lo)
theorem cutD_dv {xs : List D} {vs : List V} (h : DvL K ca H k xs vs) (lo hi : Option Int) : DvL K ca H k (cutD xs lo hi) (cutV vs lo hi) := by
  unfold cutD cutV
  rw [← h.length]
  exact (h.drop _).take _
def fSl (ta : TDO) (lo hi : TDP) : TDF := fun e Q => ta e fun a e1 => lo e1 fun l e2 => hi e2 fun u e3 => ∃ d xs, look e3 a = some d ∧ lsD d = some xs ∧ Q (cutD xs l u) e3
theorem df_sl {ta : TDO} {tl th : TDP} {lo hi : Option Expr} (ha : DO X ca H0 x ta) (hl : DPO X ca H0 lo tl) (hh : DPO X ca H0 hi th) : DF X ca H0 (.Subscript x (.Slice lo hi none p2) pos) (fSl ta tl th) :=
  ⟨fun B => pe_imp (pe_slice sl_list (ha.pe B) (hl.po B) (hh.po B)) fun σ H Q ⟨e, o, Q', R, q, imp⟩ => ⟨e, o, _, R, q, fun a e1 q1 v H1 o1 R1 s1 h1 => ⟨e1, o1, _, R1, q1, fun l e2 q2 H2 o2 R2 s2 => ⟨e2, o2, _, R2, q2, fun u e3 ⟨d, xs, hlk, hx, q3⟩ H3 o3 R3 s3 => by
    obtain ⟨p, vs, e4, h2, h3⟩ := (R3.look (h1.mono (s2.trans s3).a) hlk).ls hx
    exact ⟨p, vs, e4, h2, fun t ht => imp _ e3 q3 t _ _ o3 (R3.shut ht) (((s1.trans s2).trans s3).trans (Stp.same (same_new ht))) upd_same (fun b w hb hw => ne_of_none (((s1.trans s2).trans s3) b w hb hw).2 ht) (R3.fr0 ht) (R3.nB ht) (R3.nOwn ht) (DvL.mono (Stp.shut ht) _ _ (cutD_dv h3 l u))⟩⟩⟩⟩⟩
def dSlT (ta : TDO) (lo hi : TDP) : TD := fun e Q => ta e fun a e1 => lo e1 fun l e2 => hi e2 fun u e3 => ∃ xs, look e3 a = some (.tup xs) ∧ Q (.tup (cutD xs l u)) e3
theorem cut_whole {α : Type} {xs : List α} {l u : Option Int} (h : HT.sIx xs.length 0 l = 0 ∧ HT.sIx xs.length xs.length u = xs.length) : (xs.drop (HT.sIx xs.length 0 l)).take (HT.sIx xs.length xs.length u - HT.sIx xs.length 0 l) = xs := by
  rw [h.1, h.2, List.drop_zero, Nat.sub_zero, List.take_length]
theorem de_slT {ta : TDO} {tl th : TDP} {lo hi : Option Expr} (ha : DO X ca H0 x ta) (hl : DPO X ca H0 lo tl) (hh : DPO X ca H0 hi th) : DE X ca H0 (.Subscript x (.Slice lo hi none p2) pos) (dSlT ta tl th) :=
  ⟨fun B => pe_imp (pe_slice sl_tupA (ha.pe B) (hl.po B) (hh.po B)) fun σ H Q ⟨e, o, Q', R, q, imp⟩ => ⟨e, o, _, R, q, fun a e1 q1 v H1 o1 R1 s1 h1 => ⟨e1, o1, _, R1, q1, fun l e2 q2 H2 o2 R2 s2 => ⟨e2, o2, _, R2, q2, fun u e3 ⟨xs, hlk, q3⟩ H3 o3 R3 s3 => by
    have hw := R3.look (h1.mono (s2.trans s3).a) hlk
    obtain ⟨p, vs, e4, h2, h3⟩ := hw.tup
    have hlen := h3.length
    refine ⟨p, vs, e4, h2, fun hwh => ?_, fun _ t ht => ?_⟩
    · rw [← hlen] at hwh
      refine imp _ e3 q3 _ H3 o3 R3 ((s1.trans s2).trans s3) ?_
      have : cutD xs l u = xs := cut_whole hwh
      rw [this, ← e4]
      exact hw.dv_tup
    · exact imp _ e3 q3 _ _ o3 (R3.grow (same_new ht)) (((s1.trans s2).trans s3).trans (Stp.same (same_new ht))) ⟨t, _, rfl, .inl ⟨R3.new ht, .inl upd_same⟩, DvL.mono (Stp.same (same_new ht)) _ _ (cutD_dv h3 l u)⟩⟩⟩⟩⟩
/-! ### list + list, list * int, list(zip) -/
def fCat (ta tb : TDO) : TDF := fun e Q => ta e fun a e1 => tb e1 fun b e2 => ∃ xs ys, look e2 a = some (.lst xs) ∧ look e2 b = some (.lst ys) ∧ xs.length + ys.length ≤ sizeLine ∧ Q (xs ++ ys) e2
theorem df_cat {ta tb : TDO} (ha : DO X ca H0 x ta) (hb : DO X ca H0 y tb) : DF X ca H0 (.BinOp x .Add y pos) (fCat ta tb) :=
  ⟨fun B => pe_imp (pe_op op_cat (ha.pe B) (hb.pe B)) fun σ H Q ⟨e, o, Q', R, q, imp⟩ => ⟨e, o, _, R, q, fun a e1 q1 v H1 o1 R1 s1 h1 => ⟨e1, o1, _, R1, q1, fun b e2 ⟨xs, ys, hx, hy, hz, q2⟩ u H2 o2 R2 s2 h2 => by
    obtain ⟨p, vs, e3, g1, g2⟩ := (R2.look (h1.mono s2.a) hx).lstH
    obtain ⟨p', ws, e4, g3, g4⟩ := (R2.look h2 hy).lstH
    exact ⟨p, p', vs, ws, e3, e4, g1, g3, by rw [← g2.length, ← g4.length]; exact hz, fun t ht => imp _ e2 q2 t _ _ o2 (R2.shut ht) ((s1.trans s2).trans (Stp.same (same_new ht))) upd_same (fun b w hb hw => ne_of_none ((s1.trans s2) b w hb hw).2 ht) (R2.fr0 ht) (R2.nB ht) (R2.nOwn ht)
      (DvL.mono (Stp.shut ht) _ _ (g2.append g4))⟩⟩⟩⟩
theorem DvL.rep {xs : List D} {vs : List V} (h : DvL K ca H k xs vs) : ∀ n : Nat, DvL K ca H k (List.replicate n xs).flatten (List.replicate n vs).flatten
  | 0 => rfl
  | n + 1 => by
    rw [List.replicate_succ, List.replicate_succ, List.flatten_cons, List.flatten_cons]
    exact h.append (DvL.rep h n)
def fRep (ta tb : TDO) : TDF := fun e Q => ta e fun a e1 => tb e1 fun b e2 => ∃ xs i, look e2 a = some (.lst xs) ∧ look e2 b = some (.int i) ∧ (-(2 ^ 63) ≤ i ∧ i < 2 ^ 63) ∧ xs.length * i.toNat ≤ sizeLine ∧ Q (List.replicate i.toNat xs).flatten e2
theorem df_rep {ta tb : TDO} (ha : DO X ca H0 x ta) (hb : DO X ca H0 y tb) : DF X ca H0 (.BinOp x .Mult y pos) (fRep ta tb) :=
  ⟨fun B => pe_imp (pe_op op_rep (ha.pe B) (hb.pe B)) fun σ H Q ⟨e, o, Q', R, q, imp⟩ => ⟨e, o, _, R, q, fun a e1 q1 v H1 o1 R1 s1 h1 => ⟨e1, o1, _, R1, q1, fun b e2 ⟨xs, i, hx, hy, ⟨hi1, hi2⟩, hz, q2⟩ u H2 o2 R2 s2 h2 => by
    obtain ⟨p, vs, e3, g1, g2⟩ := (R2.look (h1.mono s2.a) hx).lstH
    exact ⟨p, i, vs, e3, (R2.look h2 hy).int, g1, hi1, hi2, by rw [← g2.length]; exact hz, fun t ht => imp _ e2 q2 t _ _ o2 (R2.shut ht) ((s1.trans s2).trans (Stp.same (same_new ht))) upd_same (fun b w hb hw => ne_of_none ((s1.trans s2) b w hb hw).2 ht) (R2.fr0 ht) (R2.nB ht) (R2.nOwn ht)
      (DvL.mono (Stp.shut ht) _ _ (g2.rep _))⟩⟩⟩⟩
end
end DL
set_option Elab.async false
set_option linter.all false
set_option maxRecDepth 100000
set_option maxHeartbeats 4000000
/-! DN: a frame's own lists changed; built-ins -/
namespace DL
open PySem PySem.Spec L2

section
variable {X : Cx} {ca : Str → Addr} {H0 : Hp} {x y z : Expr} {pos p p2 pos2 apos : Pos} {K : PySem.W.Frag} {H : Hp} {k : Addr → Prop} {es : List Expr} {st : Stmt}
/-! ### methods of a slot's own list -/
def MtD (K : PySem.W.Frag) (ca : Str → Addr) (f : List D → List D → Option (D × List D)) (r : V → List V → Hp → VK → Prop) : Prop :=
  ∀ (H : Hp) (k : Addr → Prop) (l : Addr) (xs ds ys : List D) (c : D) (vs ws : List V) (Q : VK), H l = some (.lst vs) → DvL K ca H k xs vs → DvL K ca H k ds ws → f xs ds = some (c, ys) →
    (∀ w us, Dv K ca H k c w → DvL K ca H k ys us → Q w (upd H l (.lst us))) → r (.ref l) ws H Q
def dMeth (i : Nat) (f : List D → List D → Option (D × List D)) (t : TDF) : TD := fun e Q => (∃ xs, e[i]? = some (.ol xs)) ∧ t e fun ds e' => ∃ xs c ys, e'[i]? = some (.ol xs) ∧ f xs ds = some (c, ys) ∧ Q c (e'.set i (.ol ys))
theorem le_meth {B : Addr → Prop} {i : Nat} {f : List D → List D → Option (D × List D)} {r : V → List V → Hp → VK → Prop} {t : TDF} (hf : MtD K ca f r) : ∀ σ H Q, LE K ca H0 B (dMeth i f t) σ H Q → tBM K "list" r (tVar i) (LA K ca H0 B t) σ H Q := fun σ H Q ⟨e, o, Q', R, ⟨⟨xs0, h0⟩, q⟩, imp⟩ => by
  obtain ⟨e1, vs0, e2, _⟩ := R.ol i xs0 h0
  refine ⟨_, e1, .inl ⟨rfl, _, SqL.of e2⟩, e, o, _, R, q, fun ds e' ⟨xs, c, ys, hi, hfx, q1⟩ ws H1 o1 R1 s1 hd => ?_⟩
  obtain ⟨e3, vs, e4, hx⟩ := R1.ol i xs hi
  have e5 : o1 i = o i := by
    rw [e1] at e3
    injection e3 with e3
    injection e3 with e3
    injection e3 with e3
    exact e3.symm
  rw [← e5]
  exact hf H1 (okA B e' o1) (o1 i) xs ds ys c vs ws Q e4 hx hd hfx fun w us hw hu => imp c _ q1 w _ o1 (R1.chg hi hu) (s1.trans (Stp.chgN hi)) (Dv.mono (Stp.chg hi) _ _ hw)
theorem de_meth {i : Nat} {name : Str} {id : String} {f : List D → List D → Option (D × List D)} {r : V → List V → Hp → VK → Prop} {t : TDF} (hf : MtD X.K ca f r) (slot : Slot "list" name id) (hty : typeOf (.builtin id) = pure (.type "method_descriptor")) (hm : MtR X id r)
    (ho : PE X x (tVar i)) (ha : DA X ca H0 (y :: es) t) (hbase : attributeBase x name X.env (eval x X.env) = eval x X.env := by rfl)
    (hfew : ((backTo pos (starEach (y :: es) X.env)).all (fun x => !x.1) && (backToKw pos (keywordEach [] X.env)).all (fun x => x.1.isSome)
      && decide ((y :: es).length + ([] : List Keyword).length + (if ([] : List Keyword).isEmpty then 0 else 1) < 30)) = true := by rfl)
    (hline : (apos.endLine == pos.line) = true := by rfl) (hs : starEach (y :: es) X.env = (false, eval y X.env) :: starEach es X.env := by rfl) (hplain : (backTo pos (starEach es X.env)).any (·.1) = false := by rfl) :
    DE X ca H0 (.Call (.Attribute x name apos) (y :: es) [] pos) (dMeth i f t) :=
  ⟨fun B => pe_imp (pe_bm PySem.F.plainAttrs_list slot hty hm ho (ha.pa B) hbase hfew hline hs hplain) (le_meth hf)⟩
def fAppend : List D → List D → Option (D × List D)
  | xs, [d] => if xs.length < sizeLine then some (.non, xs ++ [d]) else none
  | _, _ => none
theorem md_append : MtD K ca fAppend rAppend := by
  intro H k l xs ds ys c vs ws Q hl hx hd hf hQ
  match ds, hf with
  | [d], hf =>
    have hf' : (if xs.length < sizeLine then some (D.non, xs ++ [d]) else none) = some (c, ys) := hf
    split at hf'
    · injection hf' with hf'
      injection hf' with e1 e2
      subst e1 e2
      obtain ⟨v, r, e3, h1, h2⟩ := hd
      have e4 : r = [] := h2
      subst e4
      exact ⟨l, vs, v, rfl, e3, hl, by rw [← hx.length]; assumption, hQ .non _ rfl (hx.append (.cons h1 .nil))⟩
    · cases hf'
theorem de_append {i : Nat} {t : TDF} (ho : PE X x (tVar i)) (ha : DA X ca H0 [y] t) (hbase : attributeBase x "append" X.env (eval x X.env) = eval x X.env := by rfl)
    (hfew : ((backTo pos (starEach [y] X.env)).all (fun x => !x.1) && (backToKw pos (keywordEach [] X.env)).all (fun x => x.1.isSome)
      && decide (([y] : List Expr).length + ([] : List Keyword).length + (if ([] : List Keyword).isEmpty then 0 else 1) < 30)) = true := by rfl)
    (hline : (apos.endLine == pos.line) = true := by rfl) (hs : starEach [y] X.env = (false, eval y X.env) :: starEach [] X.env := by rfl) :
    DE X ca H0 (.Call (.Attribute x "append" apos) [y] [] pos) (dMeth i fAppend t) := de_meth md_append PySem.F.slot_list_append PySem.F.type_list_append mt_append ho ha hbase hfew hline hs rfl
def fPopAt : List D → List D → Option (D × List D)
  | xs, [.int j] => match seqIndex? j xs.length with
    | some n => match xs[n]? with
      | some d => if -(2 ^ 63) ≤ j ∧ j < 2 ^ 63 then some (d, xs.eraseIdx n) else none
      | none => none
    | none => none
  | _, _ => none
theorem md_popAt : MtD K ca fPopAt rPopAt := by
  intro H k l xs ds ys c vs ws Q hl hx hd hf hQ
  match ds, hf with
  | [.int j], hf =>
    cases q1 : seqIndex? j xs.length with
    | none => simp only [fPopAt, q1] at hf; cases hf
    | some n =>
      cases q2 : xs[n]? with
      | none => simp only [fPopAt, q1, q2] at hf; cases hf
      | some d =>
        simp only [fPopAt, q1, q2] at hf
        split at hf
        · rename_i hj
          injection hf with hf
          injection hf with e1 e2
          subst e1 e2
          obtain ⟨v, r, e3, h1, h2⟩ := hd
          have e4 : r = [] := h2
          subst e4
          have e5 : v = .int j := h1
          subst e5
          obtain ⟨w, e6, hw⟩ := hx.get q2
          exact ⟨l, vs, j, n, w, rfl, e3, hl, hj.1, hj.2, by rw [← hx.length]; exact q1, e6, hQ w _ hw (hx.eraseIdx n)⟩
        · cases hf
theorem de_popAt {i : Nat} {t : TDF} (ho : PE X x (tVar i)) (ha : DA X ca H0 [y] t) (hbase : attributeBase x "pop" X.env (eval x X.env) = eval x X.env := by rfl)
    (hfew : ((backTo pos (starEach [y] X.env)).all (fun x => !x.1) && (backToKw pos (keywordEach [] X.env)).all (fun x => x.1.isSome)
      && decide (([y] : List Expr).length + ([] : List Keyword).length + (if ([] : List Keyword).isEmpty then 0 else 1) < 30)) = true := by rfl)
    (hline : (apos.endLine == pos.line) = true := by rfl) (hs : starEach [y] X.env = (false, eval y X.env) :: starEach [] X.env := by rfl) :
    DE X ca H0 (.Call (.Attribute x "pop" apos) [y] [] pos) (dMeth i fPopAt t) := de_meth md_popAt PySem.F.slot_list_pop PySem.F.type_list_pop mt_popAt ho ha hbase hfew hline hs rfl
/-- xs[j] = v, xs a slot's own list -/
def gSetI (i : Nat) (tj : TDO) : TDG := fun d e Q => (∃ xs, e[i]? = some (.ol xs)) ∧ tj e fun a e2 => ∃ xs j n, e2[i]? = some (.ol xs) ∧ look e2 a = some (.int j) ∧ ixN xs.length j = some n ∧ Q (e2.set i (.ol (xs.set n d)))
theorem dg_setI {i : Nat} {tj : TDO} (ho : PE X x (tVar i)) (hj : DO X ca H0 y tj)
    (ha : ∀ v, assign (.Subscript x y pos) X.env v = (do
      let ov ← holding [v] (eval x X.env)
      let iv ← holding [v, ov] (eval y X.env)
      standAt pos
      holding [v, ov, iv] (setItem ov iv v)
      release [v, ov, iv] []) := by intro _; rfl) : DG X ca H0 (.Subscript x y pos) [] (gSetI i tj) :=
  ⟨fun B => pg_imp (pg_sub ho (hj.pe B) set_list ha) fun v σ H Q ⟨e, o, d, Q', R, hd, ⟨⟨xs0, h0⟩, q⟩, imp⟩ => by
    obtain ⟨e1, vs0, e2, _⟩ := R.ol i xs0 h0
    refine ⟨_, e1, e, o, _, R, q, fun a e3 ⟨xs, j, n, hi, hl, hn, q1⟩ w H1 o1 R1 s1 h1 => ?_⟩
    obtain ⟨e4, vs, e5, hx⟩ := R1.ol i xs hi
    have e6 : o1 i = o i := by
      rw [e1] at e4
      injection e4 with e4
      injection e4 with e4
      injection e4 with e4
      exact e4.symm
    have hd1 := Dv.mono s1.a _ _ hd
    refine ⟨o i, vs, j, n, rfl, (R1.look h1 hl).int, by rw [← e6]; exact e5, by rw [← hx.length]; exact hn, ?_⟩
    rw [← e6]
    exact imp _ q1 σ _ o1 (R1.chg hi (hx.set hd1 n)) (s1.trans (Stp.chgN hi)) rfl fun _ _ => rfl⟩
/-! ### x, y = (.., ..) with new lists as the names' own -/
def dOwn2 (t u : TDF) (i j : Nat) : TDS := fun D e => t e fun xs e1 => u e1 fun ys e2 => i < e2.length ∧ j < e2.length ∧ i ≠ j ∧ D.nx ((e2.set j (.ol ys)).set i (.ol xs))
def dOwnR (t : TD) (u : TDF) (i j : Nat) : TDS := fun D e => t e fun d e1 => u e1 fun ys e2 => i < e2.length ∧ j < e2.length ∧ i ≠ j ∧ D.nx ((e2.set j (.ol ys)).set i (.sh d))
def dOwnL (t : TDF) (u : TD) (i j : Nat) : TDS := fun D e => t e fun xs e1 => u e1 fun d e2 => i < e2.length ∧ j < e2.length ∧ i ≠ j ∧ D.nx ((e2.set i (.ol xs)).set j (.sh d))
/-- two names take a pair just made -/
def gPair (K : PySem.W.Frag) (i j : Nat) : TG := gTup K 2 (gCons (gName i) (gCons (gName j) gNil))
theorem tPair {K : PySem.W.Frag} {t u : TE} {i j : Nat} {D : Ends} {σ : L2.St} {H : Hp} (h : t σ H fun v H1 => u σ H1 fun w H2 => ∀ p, H2 p = none → D.nx ((σ.set i (some v)).set j (some w)) (upd H2 p (.tup [v, w]))) (mono : ∀ Q Q' : VK, (∀ v H, Q v H → Q' v H) → t σ H Q → t σ H Q')
    (monou : ∀ H1, ∀ Q Q' : VK, (∀ v H, Q v H → Q' v H) → u σ H1 Q → u σ H1 Q') : tAsg (tTup (tCons t (tCons u tNil))) (gPair K i j) D σ H := by
  refine mono _ _ (fun v H1 h1 => ?_) h
  refine monou H1 _ _ (fun w H2 h2 => ?_) h1
  refine ⟨by rw [sizeLine_eq]; show 2 ≤ _; decide, fun p hp => ⟨p, [v, w], rfl, .inl (.inl upd_same), rfl, v, [w], rfl, w, [], rfl, rfl, h2 p hp⟩⟩
section
variable {B : Addr → Prop} {σ : L2.St} {tf uf : TDF} {te : TD} {i j : Nat}
theorem LF.mono {Q Q' : VK} (w : ∀ v H, Q v H → Q' v H) (h : LF K ca H0 B tf σ H Q) : LF K ca H0 B tf σ H Q' := by
  obtain ⟨e, o, P, R, q, imp⟩ := h
  exact ⟨e, o, P, R, q, fun xs e' a b c d f g h1 h2 h3 h4 h5 h6 h7 => w _ _ (imp xs e' a b c d f g h1 h2 h3 h4 h5 h6 h7)⟩
theorem LE.mono {Q Q' : VK} (w : ∀ v H, Q v H → Q' v H) (h : LE K ca H0 B te σ H Q) : LE K ca H0 B te σ H Q' := by
  obtain ⟨e, o, P, R, q, imp⟩ := h
  exact ⟨e, o, P, R, q, fun xs e' a b c d f g h1 => w _ _ (imp xs e' a b c d f g h1)⟩
/-- some list is shut out while what follows is reckoned -/
def LFx (K : PySem.W.Frag) (ca : Str → Addr) (H0 : Hp) (B : Addr → Prop) (t : TDF) : TE := fun σ H Q => ∃ B' : Addr → Prop, LF K ca H0 B' t σ H Q
theorem set_comm2 {α : Type} {l : List α} {i j : Nat} {a b : α} (h : i ≠ j) : (l.set i a).set j b = (l.set j b).set i a := List.set_comm _ _ h
theorem ls_own2 : ∀ F σ H, LS K ca H0 B (dOwn2 tf uf i j) F σ H → tAsg (tTup (tCons (LF K ca H0 B tf) (tCons (fun σ H Q => ∃ B', LF K ca H0 B' uf σ H Q) tNil))) (gPair K i j) F σ H := fun F σ H ⟨e, o, D', R, q, en⟩ => by
  refine tPair ?_ (fun Q Q' w h => h.mono w) (fun H1 Q Q' w ⟨B', h⟩ => ⟨B', h.mono w⟩)
  refine ⟨e, o, _, R, q, fun xs e1 q1 p vs H1 o1 R1 s1 hp hs h0 hb hn hl => ⟨fun b => B b ∨ b = p, e1, o1, _, R1, q1, fun ys e2 ⟨hi, hj, hij, q2⟩ p2 ws H2 o2 R2 s2 hp2 hs2 h02 hb2 hn2 hl2 t ht => ?_⟩⟩
  -- the first list still stands
  have hpN : okN e1 o1 p := fun m zs hm => hn m zs hm
  obtain ⟨hpN2, hpl⟩ := s2 p _ hpN hp
  have hpp : p ≠ p2 := hs2 p _ hpN hp
  have hl' : DvL K ca H2 (okA (fun b => (B b ∨ b = p) ∨ b = p2) e2 o2) xs vs := DvL.mono (fun b u hb hu => by
    obtain ⟨a1, a2⟩ := s2 b u hb.2 hu
    exact ⟨⟨fun z => z.elim hb.1 (hs2 b u hb.2 hu), a1⟩, a2⟩) _ _ hl
  have sm := same_new (u := .tup [.ref p, .ref p2]) ht
  have R3 := (R2.grow sm).own (i := j) (xs := ys) (vs := ws) (sm _ _ hp2) h02 hb2 hn2 (DvL.mono (Stp.same sm) _ _ hl2) (Nat.lt_of_lt_of_le hj R2.ln)
  have hn3 : ∀ (m : Nat) (zs : List D), (e2.set j (.ol ys))[m]? = some (Ent.ol zs) → setO o2 j p2 m ≠ p := fun m zs hm => by
    rcases ol_of_setO hm with ⟨e5, _⟩ | ⟨hm, hjm⟩
    · rw [← e5, setO_self]
      exact Ne.symm hpp
    · rw [setO_ne hjm]
      exact hpN2 m zs hm
  have R4 := R3.own (i := i) (xs := xs) (vs := vs) (sm _ _ hpl) h0 hb hn3 (DvL.mono (fun b u hb hu => ⟨⟨fun z => hb.1 (.inl z), (okA_own (B := fun b => B b ∨ b = p) b ⟨hb.1, hb.2⟩).2⟩, sm _ _ hu⟩) _ _ hl') (by rw [List.length_set]; exact Nat.lt_of_lt_of_le hi R2.ln)
  rw [set_comm2 hij]
  refine en.1 _ q2 _ _ _ R4 fun b u hk hu => ?_
  obtain ⟨a1, a2⟩ := s1 b u hk hu
  obtain ⟨b1, b2⟩ := s2 b u a1 a2
  exact ⟨okN_own (okN_own b1 (hs2 b u a1 a2)) (hs b u hk hu), sm _ _ b2⟩
theorem ls_ownR : ∀ F σ H, LS K ca H0 B (dOwnR te uf i j) F σ H → tAsg (tTup (tCons (LE K ca H0 B te) (tCons (LF K ca H0 B uf) tNil))) (gPair K i j) F σ H := fun F σ H ⟨e, o, D', R, q, en⟩ => by
  refine tPair ?_ (fun Q Q' w h => h.mono w) (fun H1 Q Q' w h => h.mono w)
  refine ⟨e, o, _, R, q, fun d e1 q1 v H1 o1 R1 s1 hd => ⟨e1, o1, _, R1, q1, fun ys e2 ⟨hi, hj, hij, q2⟩ p2 ws H2 o2 R2 s2 hp2 hs2 h02 hb2 hn2 hl2 t ht => ?_⟩⟩
  have sm := same_new (u := .tup [v, .ref p2]) ht
  have hd' : Dv K ca H2 (okA (fun b => B b ∨ b = p2) e2 o2) d v := Dv.mono (fun b u hb hu => by
    obtain ⟨a1, a2⟩ := s2 b u hb.2 hu
    exact ⟨⟨fun z => z.elim hb.1 (hs2 b u hb.2 hu), a1⟩, a2⟩) _ _ hd
  have R3 := (R2.grow sm).own (i := j) (xs := ys) (vs := ws) (sm _ _ hp2) h02 hb2 hn2 (DvL.mono (Stp.same sm) _ _ hl2) (Nat.lt_of_lt_of_le hj R2.ln)
  have R4 := R3.put (i := i) (d := d) (v := v) (Dv.mono (fun b u hb hu => ⟨okA_own b ⟨hb.1, hb.2⟩, sm _ _ hu⟩) _ _ hd')
  rw [set_comm2 hij]
  refine en.1 _ q2 _ _ _ R4 fun b u hk hu => ?_
  obtain ⟨a1, a2⟩ := s1 b u hk hu
  obtain ⟨b1, b2⟩ := s2 b u a1 a2
  exact ⟨okN_set _ (okN_own b1 (hs2 b u a1 a2)), sm _ _ b2⟩
theorem ls_ownL : ∀ F σ H, LS K ca H0 B (dOwnL tf te i j) F σ H → tAsg (tTup (tCons (LF K ca H0 B tf) (tCons (fun σ H Q => ∃ B', LE K ca H0 B' te σ H Q) tNil))) (gPair K i j) F σ H := fun F σ H ⟨e, o, D', R, q, en⟩ => by
  refine tPair ?_ (fun Q Q' w h => h.mono w) (fun H1 Q Q' w ⟨B', h⟩ => ⟨B', h.mono w⟩)
  refine ⟨e, o, _, R, q, fun xs e1 q1 p vs H1 o1 R1 s1 hp hs h0 hb hn hl => ⟨fun b => B b ∨ b = p, e1, o1, _, R1, q1, fun d e2 ⟨hi, hj, hij, q2⟩ v H2 o2 R2 s2 hd t ht => ?_⟩⟩
  have hpN : okN e1 o1 p := fun m zs hm => hn m zs hm
  obtain ⟨hpN2, hpl⟩ := s2 p _ hpN hp
  have sm := same_new (u := .tup [.ref p, v]) ht
  have R3 := (R2.grow sm).own (i := i) (xs := xs) (vs := vs) (sm _ _ hpl) h0 hb hpN2 (DvL.mono (fun b u hb hu => ⟨(s2.a b u hb hu).1, sm _ _ (s2.a b u hb hu).2⟩) _ _ hl) (Nat.lt_of_lt_of_le hi R2.ln)
  have R4 := R3.put (i := j) (d := d) (v := v) (Dv.mono (fun b u hb hu => ⟨okA_own b ⟨hb.1, hb.2⟩, sm _ _ hu⟩) _ _ hd)
  refine en.1 _ q2 _ _ _ R4 fun b u hk hu => ?_
  obtain ⟨a1, a2⟩ := s1 b u hk hu
  obtain ⟨b1, b2⟩ := s2 b u a1 a2
  exact ⟨okN_set _ (okN_own b1 (hs b u hk hu)), sm _ _ b2⟩
end
section
variable {tf uf : TDF} {te : TD} {i j : Nat} {n m : Str} {npos mpos : Pos} {kk kk2 : Nat}
theorem pg_pair (hc : X.calm = true) (hN : X.N.Nodup) (hi : X.N[i]? = some n) (hx : Loc X.env.scope n) (hj : X.N[j]? = some m) (hy : Loc X.env.scope m) (hf : X.fn n = true ∨ X.env.scope.names.lookup n = some .local := by first | exact .inl rfl | exact .inr rfl | assumption) (hf2 : X.fn m = true ∨ X.env.scope.names.lookup m = some .local := by first | exact .inl rfl | exact .inr rfl | assumption) :
    PG X (.Tuple [.Name n npos, .Name m mpos] kk p) (gPair X.K i j) := pg_tup hc (pgs_cons (pg_name hN hi hx hf) (pgs_cons (pg_name hN hj hy hf2) pgs_nil))
theorem pa_ex {es : List Expr} {t : (Addr → Prop) → TA} (h : ∀ B, PA X es (t B)) : PA X es (fun σ H Q => ∃ B, t B σ H Q) := ⟨fun pos pins s σ H Q I ⟨B, q⟩ => (h B).run pos pins s σ H Q I q⟩
theorem ds_own2 (h1 : DF X ca H0 x tf) (h2 : DF X ca H0 y uf) (hg : PG X z (gPair X.K i j)) (he1 : starEach (x :: [y]) X.env = (false, eval x X.env) :: starEach [y] X.env := by rfl) (he2 : starEach [y] X.env = (false, eval y X.env) :: starEach [] X.env := by rfl)
    (hs : swapsWithSole [z] (.Tuple [x, y] kk2 p2) pos.line X.env = pure false := by rfl) (hw : swappedStores [z] (.Tuple [x, y] kk2 p2) X.env = pure none := by rfl) (ha : (assignEach [z] X.env).map (·.2) = [assign z X.env] := by rfl) :
    DSt X ca H0 (.Assign [z] (.Tuple [x, y] kk2 p2) pos) (dOwn2 tf uf i j) := ⟨fun B => ps_imp (ps_asg (pe_tup (pa_cons (h1.pe B) (pa_cons (pe_ex h2.pe) pa_nil he2) he1)) hg hs hw ha) ls_own2⟩
theorem ds_ownR (h1 : DE X ca H0 x te) (h2 : DF X ca H0 y uf) (hg : PG X z (gPair X.K i j)) (he1 : starEach (x :: [y]) X.env = (false, eval x X.env) :: starEach [y] X.env := by rfl) (he2 : starEach [y] X.env = (false, eval y X.env) :: starEach [] X.env := by rfl)
    (hs : swapsWithSole [z] (.Tuple [x, y] kk2 p2) pos.line X.env = pure false := by rfl) (hw : swappedStores [z] (.Tuple [x, y] kk2 p2) X.env = pure none := by rfl) (ha : (assignEach [z] X.env).map (·.2) = [assign z X.env] := by rfl) :
    DSt X ca H0 (.Assign [z] (.Tuple [x, y] kk2 p2) pos) (dOwnR te uf i j) := ⟨fun B => ps_imp (ps_asg (pe_tup (pa_cons (h1.pe B) (pa_cons (h2.pe B) pa_nil he2) he1)) hg hs hw ha) ls_ownR⟩
theorem ds_ownL (h1 : DF X ca H0 x tf) (h2 : DE X ca H0 y te) (hg : PG X z (gPair X.K i j)) (he1 : starEach (x :: [y]) X.env = (false, eval x X.env) :: starEach [y] X.env := by rfl) (he2 : starEach [y] X.env = (false, eval y X.env) :: starEach [] X.env := by rfl)
    (hs : swapsWithSole [z] (.Tuple [x, y] kk2 p2) pos.line X.env = pure false := by rfl) (hw : swappedStores [z] (.Tuple [x, y] kk2 p2) X.env = pure none := by rfl) (ha : (assignEach [z] X.env).map (·.2) = [assign z X.env] := by rfl) :
    DSt X ca H0 (.Assign [z] (.Tuple [x, y] kk2 p2) pos) (dOwnL tf te i j) := ⟨fun B => ps_imp (ps_asg (pe_tup (pa_cons (h1.pe B) (pa_cons (pe_ex h2.pe) pa_nil he2) he1)) hg hs hw ha) ls_ownL⟩
end
end
end DL
set_option Elab.async false
set_option linter.all false
set_option maxRecDepth 100000
set_option maxHeartbeats 4000000
/-! DQ: built-ins on data -/
namespace DL
open PySem PySem.Spec L2

/-! ### lists of ints, of truths -/
def intsOf : List D → Option (List Int)
  | [] => some []
  | .int i :: r => (intsOf r).map (i :: ·)
  | _ :: _ => none
def blsOf : List D → Option (List Bool)
  | [] => some []
  | .bl i :: r => (blsOf r).map (i :: ·)
  | _ :: _ => none
def strsOf : List D → Option (List Str)
  | [] => some []
  | .str i :: r => (strsOf r).map (i :: ·)
  | _ :: _ => none
theorem intsOf_eq : ∀ {xs : List D} {ns : List Int}, intsOf xs = some ns → xs = ns.map D.int
  | [], ns, h => by
    have e : [] = ns := Option.some.inj h
    rw [← e] <;> rfl
  | .int i :: r, ns, h => by
    have h' : (intsOf r).map (i :: ·) = some ns := h
    cases q : intsOf r with
    | none => rw [q] at h'; cases h'
    | some ms =>
      rw [q] at h'
      have e : i :: ms = ns := Option.some.inj h'
      rw [← e, intsOf_eq q] <;> rfl
  | .non :: _, _, h | .bl _ :: _, _, h | .str _ :: _, _, h | .lst _ :: _, _, h | .tup _ :: _, _, h | .obj .. :: _, _, h | .src :: _, _, h | .dct .. :: _, _, h | .ty _ :: _, _, h | .cls _ :: _, _, h | .klst _ :: _, _, h | .adr _ :: _, _, h => by cases h
theorem blsOf_eq : ∀ {xs : List D} {ns : List Bool}, blsOf xs = some ns → xs = ns.map D.bl
  | [], ns, h => by
    have e : [] = ns := Option.some.inj h
    rw [← e] <;> rfl
  | .bl i :: r, ns, h => by
    have h' : (blsOf r).map (i :: ·) = some ns := h
    cases q : blsOf r with
    | none => rw [q] at h'; cases h'
    | some ms =>
      rw [q] at h'
      have e : i :: ms = ns := Option.some.inj h'
      rw [← e, blsOf_eq q] <;> rfl
  | .non :: _, _, h | .int _ :: _, _, h | .str _ :: _, _, h | .lst _ :: _, _, h | .tup _ :: _, _, h | .obj .. :: _, _, h | .src :: _, _, h | .dct .. :: _, _, h | .ty _ :: _, _, h | .cls _ :: _, _, h | .klst _ :: _, _, h | .adr _ :: _, _, h => by cases h
theorem strsOf_eq : ∀ {xs : List D} {ns : List Str}, strsOf xs = some ns → xs = ns.map D.str
  | [], ns, h => by
    have e : [] = ns := Option.some.inj h
    rw [← e] <;> rfl
  | .str i :: r, ns, h => by
    have h' : (strsOf r).map (i :: ·) = some ns := h
    cases q : strsOf r with
    | none => rw [q] at h'; cases h'
    | some ms =>
      rw [q] at h'
      have e : i :: ms = ns := Option.some.inj h'
      rw [← e, strsOf_eq q] <;> rfl
  | .non :: _, _, h | .int _ :: _, _, h | .bl _ :: _, _, h | .lst _ :: _, _, h | .tup _ :: _, _, h | .obj .. :: _, _, h | .src :: _, _, h | .dct .. :: _, _, h | .ty _ :: _, _, h | .cls _ :: _, _, h | .klst _ :: _, _, h | .adr _ :: _, _, h => by cases h
theorem intsOf_map : ∀ (ns : List Int), intsOf (ns.map D.int) = some ns
  | [] => rfl
  | n :: ns => by
    show (intsOf (ns.map D.int)).map (n :: ·) = _
    rw [intsOf_map ns] <;> rfl
theorem blsOf_map : ∀ (ns : List Bool), blsOf (ns.map D.bl) = some ns
  | [] => rfl
  | n :: ns => by
    show (blsOf (ns.map D.bl)).map (n :: ·) = _
    rw [blsOf_map ns] <;> rfl
theorem strsOf_map : ∀ (ns : List Str), strsOf (ns.map D.str) = some ns
  | [] => rfl
  | n :: ns => by
    show (strsOf (ns.map D.str)).map (n :: ·) = _
    rw [strsOf_map ns] <;> rfl
/-! ### sorted ints are one list -/
theorem sorted_one : ∀ {l m : List Int}, l.Perm m → l.Pairwise (· ≤ ·) → m.Pairwise (· ≤ ·) → l = m
  | [], m, p, _, _ => by
    have := p.length_eq
    cases m with
    | nil => rfl
    | cons a r => cases this
  | a :: l, [], p, _, _ => by
    have := p.length_eq
    cases this
  | a :: l, b :: m, p, h1, h2 => by
    obtain ⟨h3, h4⟩ := List.pairwise_cons.mp h1
    obtain ⟨h5, h6⟩ := List.pairwise_cons.mp h2
    have e : a = b := by
      have ha : a ∈ b :: m := p.mem_iff.mp List.mem_cons_self
      have hb : b ∈ a :: l := p.mem_iff.mpr List.mem_cons_self
      rcases List.mem_cons.mp ha with e | ha
      · exact e
      · rcases List.mem_cons.mp hb with e | hb
        · exact e.symm
        · exact Int.le_antisymm (h3 b hb) (h5 a ha)
    subst e
    rw [sorted_one (List.Perm.cons_inv p) h4 h6]
def isortI (ns : List Int) : List Int := ns.mergeSort fun a b => decide (a ≤ b)
theorem isortI_perm (ns : List Int) : (isortI ns).Perm ns := List.mergeSort_perm ns _
theorem isortI_le (ns : List Int) : (isortI ns).Pairwise (· ≤ ·) := by
  have h := List.pairwise_mergeSort (le := fun a b : Int => decide (a ≤ b)) (fun a b c h1 h2 => by simp at *; omega) (fun a b => by simp; omega) ns
  exact h.imp fun h => by simpa using h

section
variable {X : Cx} {ca : Str → Addr} {H0 : Hp} {K : PySem.W.Frag}
theorem dvwl_one {H : Hp} {k : Addr → Prop} {d : D} {vs : List V} (h : DvWL K ca H k [d] vs) : ∃ v, vs = [v] ∧ DvW K ca H k d v := by
  obtain ⟨v, r, e, h1, h2⟩ := h
  have e2 : r = [] := h2
  subst e2
  exact ⟨v, e, h1⟩
theorem dvwl_two {H : Hp} {k : Addr → Prop} {d d2 : D} {vs : List V} (h : DvWL K ca H k [d, d2] vs) : ∃ v w, vs = [v, w] ∧ DvW K ca H k d v ∧ DvW K ca H k d2 w := by
  obtain ⟨v, r, e, h1, h2⟩ := h
  obtain ⟨w, e2, h3⟩ := dvwl_one h2
  subst e2
  exact ⟨v, w, e, h1, h3⟩
/-! ### len -/
def lenD : D → Option Int
  | .lst xs => some xs.length
  | .klst xs => some xs.length
  | .tup xs => some xs.length
  | .str y => if y.length ≤ sizeLine then some y.length else none
  | _ => none
def fLen : List D → Option D
  | [d] => (lenD d).map D.int
  | _ => none
theorem cd_len : CallD K ca fLen (fun xs H Q => ∃ x n, xs = [x] ∧ LenV K x H n ∧ Q (.int n) H) := by
  intro H k ds c vs Q hk hd hf hQ
  match ds, hf with
  | [d], hf =>
    obtain ⟨v, e, h⟩ := dvwl_one hd
    have hf' : (lenD d).map D.int = some c := hf
    cases q : lenD d with
    | none => rw [q] at hf'; cases hf'
    | some n =>
      rw [q] at hf'
      have e1 : D.int n = c := Option.some.inj hf'
      subst e1
      cases d with
      | lst xs =>
        have e2 : (xs.length : Int) = n := Option.some.inj q
        obtain ⟨p, ws, e3, h1, h2⟩ := h.ls (xs := xs) rfl
        subst e3
        exact ⟨_, ws.length, e, .inl ⟨ws, h1, rfl⟩, hQ _ _ (Same.refl _) (by rw [← e2, h2.length] <;> rfl)⟩
      | klst xs =>
        have e2 : (xs.length : Int) = n := Option.some.inj q
        obtain ⟨p, ws, e3, h1, h2⟩ := h.ls (xs := xs) rfl
        subst e3
        exact ⟨_, ws.length, e, .inl ⟨ws, h1, rfl⟩, hQ _ _ (Same.refl _) (by rw [← e2, h2.length] <;> rfl)⟩
      | tup xs =>
        have e2 : (xs.length : Int) = n := Option.some.inj q
        obtain ⟨p, ws, e3, h1, h2⟩ := h.tup
        subst e3
        exact ⟨_, ws.length, e, .inr ⟨ws, h1, rfl⟩, hQ _ _ (Same.refl _) (by rw [← e2, h2.length] <;> rfl)⟩
      | str y =>
        have q' : (if y.length ≤ sizeLine then some (y.length : Int) else none) = some n := q
        split at q'
        · have e2 : (y.length : Int) = n := Option.some.inj q'
          have e3 := h.str
          subst e3
          exact ⟨_, y.length, e, ⟨by assumption, rfl⟩, hQ _ _ (Same.refl _) (by rw [← e2] <;> rfl)⟩
        · cases q'
      | _ => cases q
/-! ### numbers -/
def f1I (g : Int → D) : List D → Option D
  | [.int i] => some (g i)
  | _ => none
def f2I (g : Int → Int → D) : List D → Option D
  | [.int i, .int j] => some (g i j)
  | _ => none
abbrev fAbs := f1I fun i => .int (if i < 0 then -i else i)
theorem cd_abs : CallD K ca fAbs (fun xs H Q => ∃ i, xs = [.int i] ∧ Q (.int (if i < 0 then -i else i)) H) := by
  intro H k ds c vs Q hk hd hf hQ
  match ds, hf with
  | [.int i], hf =>
    obtain ⟨v, e, h⟩ := dvwl_one hd
    have e1 := h.int
    subst e1
    have e2 : D.int (if i < 0 then -i else i) = c := Option.some.inj hf
    subst e2
    exact ⟨i, e, hQ _ _ (Same.refl _) rfl⟩
/-- min, max: two numbers, or a list of them -/
def minL : List Int → Option Int
  | [] => none
  | n :: ns => some (ns.foldl min n)
def maxL : List Int → Option Int
  | [] => none
  | n :: ns => some (ns.foldl max n)
theorem foldl_min : ∀ (ns : List Int) (n : Int), (ns.foldl min n = n ∨ ns.foldl min n ∈ ns) ∧ ns.foldl min n ≤ n ∧ ∀ y ∈ ns, ns.foldl min n ≤ y
  | [], n => ⟨.inl rfl, Int.le_refl _, fun _ h => nomatch h⟩
  | m :: ns, n => by
    obtain ⟨h1, h2, h3⟩ := foldl_min ns (min n m)
    refine ⟨?_, ?_, ?_⟩
    · rcases h1 with h1 | h1
      · show ns.foldl min (min n m) = n ∨ _
        rw [List.foldl_cons, h1]
        by_cases h : n ≤ m
        · exact .inl (by omega)
        · exact .inr (by rw [show min n m = m by omega]; exact List.mem_cons_self)
      · exact .inr (List.mem_cons_of_mem _ h1)
    · show ns.foldl min (min n m) ≤ n
      omega
    · intro y hy
      show ns.foldl min (min n m) ≤ y
      rcases List.mem_cons.mp hy with e | hy
      · omega
      · exact h3 y hy
theorem foldl_max : ∀ (ns : List Int) (n : Int), (ns.foldl max n = n ∨ ns.foldl max n ∈ ns) ∧ n ≤ ns.foldl max n ∧ ∀ y ∈ ns, y ≤ ns.foldl max n
  | [], n => ⟨.inl rfl, Int.le_refl _, fun _ h => nomatch h⟩
  | m :: ns, n => by
    obtain ⟨h1, h2, h3⟩ := foldl_max ns (max n m)
    refine ⟨?_, ?_, ?_⟩
    · rcases h1 with h1 | h1
      · show ns.foldl max (max n m) = n ∨ _
        rw [List.foldl_cons, h1]
        by_cases h : m ≤ n
        · exact .inl (by omega)
        · exact .inr (by rw [show max n m = m by omega]; exact List.mem_cons_self)
      · exact .inr (List.mem_cons_of_mem _ h1)
    · show n ≤ ns.foldl max (max n m)
      omega
    · intro y hy
      show y ≤ ns.foldl max (max n m)
      rcases List.mem_cons.mp hy with e | hy
      · omega
      · exact h3 y hy
def fMinB : List D → Option D
  | [.int i, .int j] => some (.int (if j < i then j else i))
  | [.lst xs] => (intsOf xs).bind fun ns => (minL ns).map D.int
  | _ => none
def fMaxB : List D → Option D
  | [.int i, .int j] => some (.int (if j > i then j else i))
  | [.lst xs] => (intsOf xs).bind fun ns => (maxL ns).map D.int
  | _ => none
theorem cd_min : CallD K ca fMinB (fun xs H Q => (∃ i j, xs = [.int i, .int j] ∧ Q (.int (if j < i then j else i)) H) ∨ rMin K xs H Q) := by
  intro H k ds c vs Q hk hd hf hQ
  match ds, hf with
  | [.int i, .int j], hf =>
    obtain ⟨v, w, e, h1, h2⟩ := dvwl_two hd
    have e1 := h1.int
    have e2 := h2.int
    subst e1 e2
    have e3 : D.int (if j < i then j else i) = c := Option.some.inj hf
    subst e3
    exact .inl ⟨i, j, e, hQ _ _ (Same.refl _) rfl⟩
  | [.lst xs], hf =>
    obtain ⟨v, e, h⟩ := dvwl_one hd
    have hf' : ((intsOf xs).bind fun ns => (minL ns).map D.int) = some c := hf
    cases q : intsOf xs with
    | none => rw [q] at hf'; cases hf'
    | some ns =>
      rw [q] at hf'
      have e1 := intsOf_eq q
      subst e1
      obtain ⟨p, ws, e2, h1, h2⟩ := h.ls (xs := ns.map D.int) rfl
      subst e2
      have e3 := h2.ints
      subst e3
      cases ns with
      | nil => cases hf'
      | cons n ns =>
        have e4 : D.int (ns.foldl min n) = c := Option.some.inj hf'
        subst e4
        refine .inr ⟨p, n :: ns, e, h1, Nat.succ_pos _, fun m hm hle => hQ _ _ (Same.refl _) ?_⟩
        obtain ⟨g1, g2, g3⟩ := foldl_min ns n
        have h5 : m = ns.foldl min n := by
          have h6 := hle (ns.foldl min n) (by rcases g1 with g1 | g1; rw [g1]; exact List.mem_cons_self; exact List.mem_cons_of_mem _ g1)
          rcases List.mem_cons.mp hm with e5 | hm
          · omega
          · have := g3 m hm
            omega
        rw [h5] <;> rfl
theorem cd_max : CallD K ca fMaxB (fun xs H Q => (∃ i j, xs = [.int i, .int j] ∧ Q (.int (if j > i then j else i)) H) ∨ rMax K xs H Q) := by
  intro H k ds c vs Q hk hd hf hQ
  match ds, hf with
  | [.int i, .int j], hf =>
    obtain ⟨v, w, e, h1, h2⟩ := dvwl_two hd
    have e1 := h1.int
    have e2 := h2.int
    subst e1 e2
    have e3 : D.int (if j > i then j else i) = c := Option.some.inj hf
    subst e3
    exact .inl ⟨i, j, e, hQ _ _ (Same.refl _) rfl⟩
  | [.lst xs], hf =>
    obtain ⟨v, e, h⟩ := dvwl_one hd
    have hf' : ((intsOf xs).bind fun ns => (maxL ns).map D.int) = some c := hf
    cases q : intsOf xs with
    | none => rw [q] at hf'; cases hf'
    | some ns =>
      rw [q] at hf'
      have e1 := intsOf_eq q
      subst e1
      obtain ⟨p, ws, e2, h1, h2⟩ := h.ls (xs := ns.map D.int) rfl
      subst e2
      have e3 := h2.ints
      subst e3
      cases ns with
      | nil => cases hf'
      | cons n ns =>
        have e4 : D.int (ns.foldl max n) = c := Option.some.inj hf'
        subst e4
        refine .inr ⟨p, n :: ns, e, h1, Nat.succ_pos _, fun m hm hle => hQ _ _ (Same.refl _) ?_⟩
        obtain ⟨g1, g2, g3⟩ := foldl_max ns n
        have h5 : m = ns.foldl max n := by
          have h6 := hle (ns.foldl max n) (by rcases g1 with g1 | g1; rw [g1]; exact List.mem_cons_self; exact List.mem_cons_of_mem _ g1)
          rcases List.mem_cons.mp hm with e5 | hm
          · omega
          · have := g3 m hm
            omega
        rw [h5] <;> rfl
/-! ### sum, all, any -/
def fSumB : List D → Option D
  | [.lst xs] => (intsOf xs).map fun ns => D.int ns.sum
  | _ => none
theorem cd_sum : CallD K ca fSumB (rSum K) := by
  intro H k ds c vs Q hk hd hf hQ
  match ds, hf with
  | [.lst xs], hf =>
    obtain ⟨v, e, h⟩ := dvwl_one hd
    have hf' : ((intsOf xs).map fun ns => D.int ns.sum) = some c := hf
    cases q : intsOf xs with
    | none => rw [q] at hf'; cases hf'
    | some ns =>
      rw [q] at hf'
      have e1 := intsOf_eq q
      subst e1
      obtain ⟨p, ws, e2, h1, h2⟩ := h.ls (xs := ns.map D.int) rfl
      subst e2
      have e3 := h2.ints
      subst e3
      have e4 : D.int ns.sum = c := Option.some.inj hf'
      subst e4
      exact ⟨p, ns, e, h1, hQ _ _ (Same.refl _) rfl⟩
def fAllB : List D → Option D
  | [.lst xs] => (blsOf xs).map fun ns => D.bl (ns.all id)
  | _ => none
def fAnyB : List D → Option D
  | [.lst xs] => (blsOf xs).map fun ns => D.bl (ns.any id)
  | _ => none
theorem cd_all : CallD K ca fAllB (rAll K) := by
  intro H k ds c vs Q hk hd hf hQ
  match ds, hf with
  | [.lst xs], hf =>
    obtain ⟨v, e, h⟩ := dvwl_one hd
    have hf' : ((blsOf xs).map fun ns => D.bl (ns.all id)) = some c := hf
    cases q : blsOf xs with
    | none => rw [q] at hf'; cases hf'
    | some ns =>
      rw [q] at hf'
      have e1 := blsOf_eq q
      subst e1
      obtain ⟨p, ws, e2, h1, h2⟩ := h.ls (xs := ns.map D.bl) rfl
      subst e2
      have e3 := h2.bls
      subst e3
      have e4 : D.bl (ns.all id) = c := Option.some.inj hf'
      subst e4
      exact ⟨p, ns, e, h1, hQ _ _ (Same.refl _) rfl⟩
theorem cd_any : CallD K ca fAnyB (rAny K) := by
  intro H k ds c vs Q hk hd hf hQ
  match ds, hf with
  | [.lst xs], hf =>
    obtain ⟨v, e, h⟩ := dvwl_one hd
    have hf' : ((blsOf xs).map fun ns => D.bl (ns.any id)) = some c := hf
    cases q : blsOf xs with
    | none => rw [q] at hf'; cases hf'
    | some ns =>
      rw [q] at hf'
      have e1 := blsOf_eq q
      subst e1
      obtain ⟨p, ws, e2, h1, h2⟩ := h.ls (xs := ns.map D.bl) rfl
      subst e2
      have e3 := h2.bls
      subst e3
      have e4 : D.bl (ns.any id) = c := Option.some.inj hf'
      subst e4
      exact ⟨p, ns, e, h1, hQ _ _ (Same.refl _) rfl⟩
/-! ### new lists: sorted, list; tuple -/
def fSorted : List D → Option (List D)
  | [.lst xs] => (intsOf xs).map fun ns => (isortI ns).map D.int
  | _ => none
theorem cf_sorted : CallF K ca fSorted (rSortedI K) := by
  intro H k ds c vs Q hk hd hf hQ
  match ds, hf with
  | [.lst xs], hf =>
    obtain ⟨v, e, h⟩ := dvwl_one hd
    have hf' : ((intsOf xs).map fun ns => (isortI ns).map D.int) = some c := hf
    cases q : intsOf xs with
    | none => rw [q] at hf'; cases hf'
    | some ns =>
      rw [q] at hf'
      have e1 := intsOf_eq q
      subst e1
      obtain ⟨p, ws, e2, h1, h2⟩ := h.ls (xs := ns.map D.int) rfl
      subst e2
      have e3 := h2.ints
      subst e3
      have e4 : (isortI ns).map D.int = c := Option.some.inj hf'
      subst e4
      refine ⟨p, ns, e, h1, fun ns' t hp hs ht => ?_⟩
      have e5 : ns' = isortI ns := sorted_one (hp.trans (isortI_perm ns).symm) hs (isortI_le ns)
      subst e5
      exact hQ t _ ht (DvL.of_ints _)
def fListB : List D → Option (List D)
  | [d] => seqD d
  | _ => none
theorem cf_list : CallF K ca fListB (fun xs H Q => ∃ p ys, xs = [.ref p] ∧ (SqL K H p ys ∨ SqT K H p ys) ∧ ∀ l, H l = none → Q (.ref l) (upd H l (.lst ys))) := by
  intro H k ds c vs Q hk hd hf hQ
  match ds, hf with
  | [d], hf =>
    obtain ⟨v, e, h⟩ := dvwl_one hd
    have hf' : seqD d = some c := hf
    cases d with
    | lst xs =>
      obtain ⟨p, ws, e2, h1, h2⟩ := h.ls hf'
      subst e2
      exact ⟨p, ws, e, .inl h1, fun l hl => hQ l ws hl h2⟩
    | klst xs =>
      obtain ⟨p, ws, e2, h1, h2⟩ := h.ls hf'
      subst e2
      exact ⟨p, ws, e, .inl h1, fun l hl => hQ l ws hl h2⟩
    | tup xs =>
      have e3 : xs = c := Option.some.inj hf'
      subst e3
      obtain ⟨p, ws, e2, h1, h2⟩ := h.tup
      subst e2
      exact ⟨p, ws, e, .inr h1, fun l hl => hQ l ws hl h2⟩
    | _ => cases hf'
def fTupleB : List D → Option D
  | [d] => (seqD d).map D.tup
  | _ => none
theorem cd_tuple : CallD K ca fTupleB (fun xs H Q => ∃ p ys, xs = [.ref p] ∧ ((SqL K H p ys ∧ ∀ l, H l = none → Q (.ref l) (upd H l (.tup ys))) ∨ (SqT K H p ys ∧ Q (.ref p) H))) := by
  intro H k ds c vs Q hk hd hf hQ
  match ds, hf with
  | [d], hf =>
    obtain ⟨v, e, h⟩ := dvwl_one hd
    have hf' : (seqD d).map D.tup = some c := hf
    have ls : ∀ xs, lsD d = some xs → D.tup xs = c → ∃ p ys, vs = [.ref p] ∧ ((SqL K H p ys ∧ ∀ l, H l = none → Q (.ref l) (upd H l (.tup ys))) ∨ (SqT K H p ys ∧ Q (.ref p) H)) := fun xs hx e1 => by
      subst e1
      obtain ⟨p, ws, e2, h1, h2⟩ := h.ls hx
      subst e2
      exact ⟨p, ws, e, .inl ⟨h1, fun l hl => hQ _ _ (same_new hl) ⟨l, ws, rfl, .inl ⟨hk l hl, .inl upd_same⟩, DvL.mono (Stp.same (same_new hl)) _ _ h2⟩⟩⟩
    cases d with
    | lst xs => exact ls xs rfl (Option.some.inj hf')
    | klst xs => exact ls xs rfl (Option.some.inj hf')
    | tup xs =>
      have e3 : D.tup xs = c := Option.some.inj hf'
      subst e3
      obtain ⟨p, ws, e2, h1, h2⟩ := h.tup
      refine ⟨p, ws, by rw [e, e2], .inr ⟨h1, ?_⟩⟩
      rw [← e2]
      exact hQ _ _ (Same.refl _) h.dv_tup
    | _ => cases hf'
/-! ### texts of numbers, numbers of texts -/
def fStrB : List D → Option D
  | [.int i] => if i.natAbs.log2 < 1920 then some (.str (toString i)) else none
  | [.str a] => some (.str a)
  | _ => none
theorem cd_str : CallD K ca fStrB (fun xs H Q => (∃ i, xs = [.int i] ∧ i.natAbs.log2 < 1920 ∧ Q (.str (toString i)) H) ∨ ∃ a, xs = [.str a] ∧ Q (.str a) H) := by
  intro H k ds c vs Q hk hd hf hQ
  match ds, hf with
  | [.int i], hf =>
    obtain ⟨v, e, h⟩ := dvwl_one hd
    have e1 := h.int
    subst e1
    have hf' : (if i.natAbs.log2 < 1920 then some (D.str (toString i)) else none) = some c := hf
    split at hf'
    · have e2 : D.str (toString i) = c := Option.some.inj hf'
      subst e2
      exact .inl ⟨i, e, by assumption, hQ _ _ (Same.refl _) rfl⟩
    · cases hf'
  | [.str a], hf =>
    obtain ⟨v, e, h⟩ := dvwl_one hd
    have e1 := h.str
    subst e1
    have e2 : D.str a = c := Option.some.inj hf
    subst e2
    exact .inr ⟨a, e, hQ _ _ (Same.refl _) rfl⟩
def fIntB : List D → Option D
  | [.int i] => some (.int i)
  | [.bl k] => some (.int (if k then 1 else 0))
  | [.str a] => if a.length ≤ 640 then (PySem.intText? a).map D.int else none
  | _ => none
theorem cd_int : CallD K ca fIntB (fun xs H Q => ((∃ i, xs = [.int i] ∧ Q (.int i) H) ∨ ∃ k, xs = [.bl k] ∧ Q (.int (if k then 1 else 0)) H) ∨ ∃ a n, xs = [.str a] ∧ PySem.intText? a = some n ∧ a.length ≤ 640 ∧ Q (.int n) H) := by
  intro H k ds c vs Q hk hd hf hQ
  match ds, hf with
  | [.int i], hf =>
    obtain ⟨v, e, h⟩ := dvwl_one hd
    have e1 := h.int
    subst e1
    have e2 : D.int i = c := Option.some.inj hf
    subst e2
    exact .inl (.inl ⟨i, e, hQ _ _ (Same.refl _) rfl⟩)
  | [.bl b], hf =>
    obtain ⟨v, e, h⟩ := dvwl_one hd
    have e1 := h.bl
    subst e1
    have e2 : D.int (if b then 1 else 0) = c := Option.some.inj hf
    subst e2
    exact .inl (.inr ⟨b, e, hQ _ _ (Same.refl _) rfl⟩)
  | [.str a], hf =>
    obtain ⟨v, e, h⟩ := dvwl_one hd
    have e1 := h.str
    subst e1
    have hf' : (if a.length ≤ 640 then (PySem.intText? a).map D.int else none) = some c := hf
    split at hf'
    · cases q : PySem.intText? a with
      | none => rw [q] at hf'; cases hf'
      | some n =>
        rw [q] at hf'
        have e2 : D.int n = c := Option.some.inj hf'
        subst e2
        exact .inr ⟨a, n, e, q, by assumption, hQ _ _ (Same.refl _) rfl⟩
    · cases hf'
/-! ### list(zip(..)) -/
def fListZip (t : TDF) : TDF := fun e Q => t e fun ds e' => ∃ d1 d2 xs ys, ds = [d1, d2] ∧ seqD d1 = some xs ∧ seqD d2 = some ys ∧ Q (zipOf xs ys) e'
theorem zipOf_dv {H H2 : Hp} {k : Addr → Prop} {q : Addr} : ∀ {xs ys : List D} {vs ws : List V} {ps : List Addr}, DvL K ca H k xs vs → DvL K ca H k ys ws → Same H H2 → (∀ p, H p = none → p ≠ q → k p) → ps.length = min vs.length ws.length →
    (∀ (j : Nat) (p : Addr), ps[j]? = some p → ∃ x y, vs[j]? = some x ∧ ws[j]? = some y ∧ H2 p = some (.tup [x, y]) ∧ H p = none ∧ p ≠ q) → DvL K ca H2 k (zipOf xs ys) (ps.map V.ref)
  | [], ys, vs, ws, ps, hx, hy, sm, hk, hl, hg => by
    have e : vs = [] := hx
    subst e
    have e2 : ps = [] := List.eq_nil_of_length_eq_zero (by simpa using hl)
    subst e2
    exact rfl
  | x :: xs, [], vs, ws, ps, hx, hy, sm, hk, hl, hg => by
    have e : ws = [] := hy
    subst e
    have e2 : ps = [] := List.eq_nil_of_length_eq_zero (by simpa using hl)
    subst e2
    exact rfl
  | x :: xs, y :: ys, vs, ws, ps, hx, hy, sm, hk, hl, hg => by
    obtain ⟨v, r, e1, h1, h2⟩ := hx
    obtain ⟨w, r', e2, h3, h4⟩ := hy
    subst e1 e2
    cases ps with
    | nil => simp at hl
    | cons p ps =>
      obtain ⟨x', y', g1, g2, g3, g4, g5⟩ := hg 0 p rfl
      have g1' : v = x' := by simpa using g1
      have g2' : w = y' := by simpa using g2
      subst g1' g2'
      refine ⟨.ref p, ps.map V.ref, rfl, ⟨p, [v, w], rfl, .inl ⟨hk p g4 g5, .inl g3⟩, .cons (Dv.mono (Stp.same sm) _ _ h1) (.cons (Dv.mono (Stp.same sm) _ _ h3) .nil)⟩, ?_⟩
      exact zipOf_dv h2 h4 sm hk (by simp at hl; omega) fun j p' hj => by simpa using hg (j + 1) p' (by simpa using hj)
theorem df_listzip {x y : Expr} {p p2 pos pos2 : Pos} {t : TDF} (hc : X.calm = true) (hg : Gl X "zip") (hm : X.mg "zip" = none) (hg2 : Gl X "list") (hm2 : X.mg "list" = none) (ha : DA X ca H0 [x, y] t)
    (hs : starEach [x, y] X.env = (false, eval x X.env) :: starEach [y] X.env := by rfl) (hpl : (backTo pos (starEach [y] X.env)).any (·.1) = false := by rfl)
    (hs2 : starEach [.Call (.Name "zip" p) [x, y] [] pos] X.env = (false, eval (.Call (.Name "zip" p) [x, y] [] pos) X.env) :: starEach [] X.env := by rfl) :
    DF X ca H0 (.Call (.Name "list" p2) [.Call (.Name "zip" p) [x, y] [] pos] [] pos2) (fListZip t) :=
  ⟨fun B => pe_imp (pe_listzip hc hg hm hg2 hm2 (ha.pa B) hs hpl hs2) fun σ H Q ⟨e, o, Q', R, q, imp⟩ => ⟨e, o, _, R, q, fun ds e1 ⟨d1, d2, xs, ys, ed, hx, hy, q1⟩ vs H1 o1 R1 s1 hd => by
    subst ed
    obtain ⟨v, r, e2, h1, w, r', e3, h2, h3⟩ := hd
    have e4 : r' = [] := h3
    subst e4 e3 e2
    obtain ⟨l1, a, us, e5, g1, g2⟩ := seqB h1 hx
    obtain ⟨l2, b, ws, e6, g3, g4⟩ := seqB h2 hy
    subst e5 e6
    refine ⟨a, b, us, ws, l1, l2, rfl, g1, g3, fun t ps H2 ht sm hq hl good => ?_⟩
    -- the rest as if the list were laid last
    have R2 : Rep X.K ca (fun b => B b ∨ b = t) H0 H2 σ e1 o1 :=
      { sh := fun i d hi => by
          obtain ⟨v, e7, h⟩ := R1.sh i d hi
          exact ⟨v, e7, Dv.mono (fun b u hb hu => ⟨⟨fun z => z.elim hb.1 (ne_of_none hu ht), hb.2⟩, sm _ _ hu⟩) _ _ h⟩
        ol := fun i zs hi => by
          obtain ⟨e7, vs, e8, h⟩ := R1.ol i zs hi
          exact ⟨e7, vs, sm _ _ e8, DvL.mono (fun b u hb hu => ⟨⟨fun z => z.elim hb.1 (ne_of_none hu ht), hb.2⟩, sm _ _ hu⟩) _ _ h⟩
        ne := R1.ne
        fr := R1.fr
        nb := fun i zs hi z => z.elim (R1.nb i zs hi) fun z => by
          obtain ⟨_, vs, e8, _⟩ := R1.ol i zs hi
          rw [z, ht] at e8
          cases e8
        sm := R1.sm.trans sm
        bd := fun b hb z => by
          rcases hb with hb | hb
          · exact (R1.grow sm).bd b hb z
          · rw [hb, hq] at z
            cases z
        ln := R1.ln
        lt := fun i zs hi => by
          obtain ⟨q, vs, e7, e8, h⟩ := R1.lt i zs hi
          exact ⟨q, vs, e7, e8, DvL.mono (fun b u hb hu => ⟨⟨fun z => z.elim hb.1 (ne_of_none hu ht), hb.2⟩, sm _ _ hu⟩) _ _ h⟩ }
    refine imp _ e1 q1 t _ H2 o1 R2 (s1.trans (Stp.same sm)) hq (fun b u hb hu => ne_of_none (s1 b u hb hu).2 ht) (R1.fr0 ht) (R1.nB ht) (R1.nOwn ht) ?_
    have up : ∀ {ds : List D} {vs : List V}, DvL X.K ca H1 (okA B e1 o1) ds vs → DvL X.K ca H1 (okA (fun b => B b ∨ b = t) e1 o1) ds vs := fun h => DvL.mono (fun b u hb hu => ⟨⟨fun z => z.elim hb.1 (ne_of_none hu ht), hb.2⟩, hu⟩) _ _ h
    exact zipOf_dv (q := t) (up g2) (up g4) sm (fun p hp hpt => ⟨fun z => z.elim (R1.nB hp) hpt, fun i zs hi => R1.nOwn hp i zs hi⟩) hl good⟩⟩
end
end DL
set_option Elab.async false
set_option linter.all false
set_option maxRecDepth 100000
set_option maxHeartbeats 4000000
/-! DO: operators that a class of the text defines -/
namespace PySem.W
open PySem PySem.Spec PySem.Calls PyProof.Rows
section
variable {prog : Program} {w : World} {A A₀ : Around} {E : Value → Shared → Prop} {s : Shared} {K : Frag} {x C L f : Addr} {h₀ : Heap} {m : Str → Option Value} {ox : Obj} {od : Option Obj} {name : Str} {b tb : Value}
theorem one_bind (self : Value) : bindSpecial (.builtin "object.__ne__") self = pure (.builtin "object.__ne__", [self]) :=
  (Slot.of (T := "object") (name := "__ne__") (owner := "object") (n := "__ne__") (by rw [typeLookup_type, builtinLookup_eq_fast]; kernel_rfl) (by decide +kernel) (by decide +kernel) (by decide +kernel)
    (.inl (by decide +kernel)) (by rw [isSubtype_type]; kernel_rfl)).bind self
/-- what a truth handed back becomes, turned -/
def NotBack (Q : Value → Shared → Prop) (v : Value) (s' : Shared) : Prop := match v with
  | .bool k => Q (.bool (!k)) s'
  | _ => False
/-- x != b, x of a class that defines == alone -/
theorem ne_K {Q : Value → Shared → Prop} (hu : A.units + 1 < cLine) (F : Fr h₀ L s.heap m) (X₀ : K.In h₀) (I : InstAt s.heap x ox C od) (hb : Looks (model prog w) s.heap (typeOf b) tb) (hn : notFirst K C tb = true)
    (hne : findIn K (.ref C) "__ne__" = some (some (.builtin "object.__ne__"))) (hs : findIn K (.ref C) "__eq__" = some (some (.ref f))) (hf : isFn K (.ref f) = true) (hm : mroIn K C (.type "object") = some true)
    (h : wpAny (model prog w) A.in1 (call (.ref f) [.ref x, b]) (NotBack Q) E s) : wpAny (model prog w) A (richCompare .NotEq (.ref x) b) Q E s := by
  have X := X₀.keeps F.keep
  have one : wpAny (model prog w) A (tryCompare (.ref x) "__ne__" b) (fun r s' => ∃ v, r = some v ∧ Q v s') E s := by
    unfold tryCompare
    refine wpAny_bind ?_
    simp only [callSpecialIfBound?, bindSpecialIfBound?]
    refine wpAny_holding (wpAny_bind (wpAny_bind (wpAny_bind (I.type.here ((looks_findIn X hne).here ?_)))))
    simp only [one_bind]
    refine wpAny_bind (wpAny_askSetting (wpAny_ite ?_))
    have hi : Looks (model prog w) s.heap (isInstance (.ref x) (.type "object")) true := by
      unfold isInstance
      exact (I.type (M := model prog w)).andThen (looks_mroIn X hm)
    have body : wpAny (model prog w) A.in1 (Builtin.«object.__ne__» ⟨[.ref x, b], []⟩) (fun fin s' => ∃ k : Bool, fin = .done (.ret (.bool k)) ∧ Q (.bool k) s') E s := by
      unfold Builtin.«object.__ne__»
      show wpAny _ _ (cRoomFor "comparison" [.ref x, b] >>= _) _ _ _
      refine wpAny_bind (wpAny_cRoomFor hu ?_)
      refine wpAny_bind (ifBound_K X I hs hf (wpAny_mono h (fun v s' hv => ?_) fun _ _ e => e))
      cases v <;> first | exact False.elim hv | skip
      rename_i k
      show wpAny _ _ (truthy (.bool k) >>= _) _ _ _
      refine wpAny_bind (wpAny_of_eq (a := k) rfl ?_)
      exact wpAny_pure ⟨!k, rfl, hv⟩
    have fin : wpAny (model prog w) A (call (.builtin "object.__ne__") ([.ref x] ++ [b]) >>= fun v => pure (some v)) (fun r s' => wpAny (model prog w) A (match r with | some .notImplemented | none => pure none | some v => pure (some v)) (fun r s' => ∃ v, r = some v ∧ Q v s') E s') E s := by
      refine wpAny_bind (wpAny_call (codeAny_call_builtin (by decide +kernel) PySem.F.cmpEntry_ne (check_slot PySem.F.cmpKind_ne PySem.F.cmpSplit_ne hi (PySem.F.cmpArgs_ne _ _) (wpAny_mono body (fun fin s' hf' => ?_) fun _ _ e => e))))
      obtain ⟨k, rfl, hq⟩ := hf'
      exact wpAny_pure (wpAny_pure ⟨_, rfl, hq⟩)
    split
    · exact wpAny_bind (wpAny_pure (wpAny_pure fin))
    · exact wpAny_tryCatch (wpAny_bind (wpAny_pure (wpAny_pure fin)))
  unfold richCompare
  simp only [oneThing_ref]
  refine wpAny_holding (wpAny_bind (wpAny_cRoomFor (by omega) ?_))
  refine wpAny_bind (I.type.here (wpAny_bind (hb.here ?_)))
  split
  · rename_i q
    have e : subIn K tb (.ref C) = some false := by
      rcases Bool.or_eq_true_iff.mp hn with e | e
      · rw [beq_iff_eq.mp e] at q; simp at q
      · exact beq_iff_eq.mp e
    refine wpAny_bind ((looks_subIn X e).here ?_)
    simp only [Bool.false_eq_true, if_false]
    refine wpAny_bind (wpAny_mono one (fun r s' z => ?_) fun _ _ e => e)
    obtain ⟨v, rfl, hq⟩ := z
    exact wpAny_pure hq
  · refine wpAny_bind (wpAny_pure ?_)
    simp only [Bool.false_eq_true, if_false]
    refine wpAny_bind (wpAny_mono one (fun r s' z => ?_) fun _ _ e => e)
    obtain ⟨v, rfl, hq⟩ := z
    exact wpAny_pure hq
end
end PySem.W

namespace DL
open PySem PySem.Spec L2
section
variable {X : Cx} {CX : CXT} {n : Nat} {C g : Addr} {sp : Sp} {E : XK}
/-- x and y instances of the class at C, which defines the operator -/
def rOwnI (C : Addr) (sp : Sp) (E : XK) : R2 := fun x y H Q => ∃ a dx fs b dy gs, x = .ref a ∧ y = .ref b ∧ H a = some (.ins C dx fs) ∧ H b = some (.ins C dy gs) ∧ sp [x, y] H Q E
theorem ins_at {pins : List (Addr × Obj)} {σ : L2.St} {H : Hp} {s : Shared} {a dx : Addr} {fs : List (Str × V)} (I : Inv X pins σ H s) (h : H a = some (.ins C dx fs)) : ∃ ox od, PySem.W.InstAt s.heap a ox C (some od) := by
  obtain ⟨mA, J, _⟩ := ins_get I.hok h
  obtain ⟨od, J, _⟩ := J.look
  exact ⟨_, od, J⟩
theorem op_ownB {op : Operator} (hc : PySem.W.selfFirst X.K C = true) (hs : PySem.W.findIn X.K (.ref C) (PySem.dunder op.info.2) = some (some (.ref g))) (hf : PySem.W.isFn X.K (.ref g) = true) (F : FnR X.prog X.w X.K X.mg X.base CX n g sp)
    (hr : Room n X.A) (hx : Passes CX X E) : OpR X (binaryOp op) (rOwnI C sp E) := by
  intro pins s σ H x y v u Q I rx ry h
  obtain ⟨a, dx, fs, b, dy, gs, rfl, rfl, ha, hb, q⟩ := h
  cases (show v = Value.ref a from rx)
  cases (show u = Value.ref b from ry)
  obtain ⟨ox, od, J⟩ := ins_at I ha
  obtain ⟨ox', od', J'⟩ := ins_at I hb
  obtain ⟨m, hF⟩ := I.fr
  refine PySem.W.binop_K hF I.ok.mod.kin J J'.type hc hs hf ?_
  refine wpAny_mono (wpAny_call (run_fnR (us := [.ref a, .ref b]) (vs := [.ref a, .ref b]) F hr hx I (.cons rfl (.cons rfl .nil)) q)) (fun w s' z => ?_) fun _ _ x => x
  obtain ⟨z', H', I', rz, qz⟩ := z
  exact SlX.cmpback rz ⟨z', H', I', rz, qz⟩
theorem op_ownC {op : CmpOp} (hop : ∀ a b, compareOp op a b = richCompare op a b) (hs : PySem.W.findIn X.K (.ref C) (cmpInfo op).2.1 = some (some (.ref g))) (hf : PySem.W.isFn X.K (.ref g) = true) (F : FnR X.prog X.w X.K X.mg X.base CX n g sp)
    (hr : Room n X.A) (hx : Passes CX X E) : OpR X (compareOp op) (rOwnI C sp E) := by
  intro pins s σ H x y v u Q I rx ry h
  obtain ⟨a, dx, fs, b, dy, gs, rfl, rfl, ha, hb, q⟩ := h
  cases (show v = Value.ref a from rx)
  cases (show u = Value.ref b from ry)
  obtain ⟨ox, od, J⟩ := ins_at I ha
  obtain ⟨ox', od', J'⟩ := ins_at I hb
  obtain ⟨m, hF⟩ := I.fr
  rw [hop]
  refine PySem.W.cmp_K (op := op) (tb := .ref C) hr.units0 hF I.ok.mod.kin J J'.type (by unfold PySem.W.notFirst; simp) hs hf ?_
  refine wpAny_mono (wpAny_call (run_fnR (us := [.ref a, .ref b]) (vs := [.ref a, .ref b]) F hr hx I (.cons rfl (.cons rfl .nil)) q)) (fun w s' z => ?_) fun _ _ x => x
  obtain ⟨z', H', I', rz, qz⟩ := z
  exact SlX.cmpback rz ⟨z', H', I', rz, qz⟩
/-- x != y where the class defines == alone -/
def rOwnNe (C : Addr) (sp : Sp) (E : XK) : R2 := fun x y H Q => ∃ a dx fs b dy gs, x = .ref a ∧ y = .ref b ∧ H a = some (.ins C dx fs) ∧ H b = some (.ins C dy gs) ∧ sp [x, y] H (fun v H' => ∃ k, v = .bl k ∧ Q (.bl (!k)) H') E
theorem op_ownNe (hne : PySem.W.findIn X.K (.ref C) "__ne__" = some (some (.builtin "object.__ne__"))) (hs : PySem.W.findIn X.K (.ref C) "__eq__" = some (some (.ref g))) (hf : PySem.W.isFn X.K (.ref g) = true) (hm : PySem.W.mroIn X.K C (.type "object") = some true)
    (F : FnR X.prog X.w X.K X.mg X.base CX n g sp) (hr : Room (n + 1) X.A) (hx : Passes CX X E) : OpR X (compareOp .NotEq) (rOwnNe C sp E) := by
  intro pins s σ H x y v u Q I rx ry h
  obtain ⟨a, dx, fs, b, dy, gs, rfl, rfl, ha, hb, q⟩ := h
  cases (show v = Value.ref a from rx)
  cases (show u = Value.ref b from ry)
  obtain ⟨ox, od, J⟩ := ins_at I ha
  obtain ⟨ox', od', J'⟩ := ins_at I hb
  obtain ⟨m, hF⟩ := I.fr
  rw [show compareOp .NotEq (.ref a) (.ref b) = richCompare .NotEq (.ref a) (.ref b) from rfl]
  refine PySem.W.ne_K (tb := .ref C) (by have := hr.un; omega) hF I.ok.mod.kin J J'.type (by unfold PySem.W.notFirst; simp) hne hs hf hm ?_
  have hr2 : Room n X.A.in1 := Room.in1 hr
  refine wpAny_mono (wpAny_call (SlX.run_at (us := [.ref a, .ref b]) (ws := [.ref a, .ref b]) F hr2 I.env0.in1 hx I (.cons rfl (.cons rfl .nil)) q)) (fun w s' z => ?_) fun _ _ x => x
  obtain ⟨z', H', I', rz, k, ek, qz⟩ := z
  subst ek
  cases (show w = Value.bool k from rz)
  exact ⟨.bl (!k), H', I', rfl, qz⟩
end
end DL
set_option Elab.async false
set_option linter.all false
set_option maxRecDepth 100000
set_option maxHeartbeats 4000000
/-! DR: instances made, operators and classmethods of a class of the text, isinstance, texts split and joined, comprehensions with two clauses -/
namespace DL
open PySem PySem.Spec L2

/-! ### an instance is made -/
/-- what __init__ promises: the fields' names and data -/
abbrev DIn := List D → (List Str → List D → Prop) → DXK → Prop
def LIn (K : PySem.W.Frag) (ca : Str → Addr) (C : Addr) (sp : DIn) : Sp := fun vs H Q _ => ∃ (x dx : Addr) (ws : List V) (B : Addr → Prop) (ds : List D) (Q' : List Str → List D → Prop), vs = .ref x :: ws ∧ H x = some (.ins C dx []) ∧ (∀ b, B b → H b ≠ none) ∧ B x ∧
  DvL K ca H (fun b => ¬ B b) ds ws ∧ sp ds Q' DX0 ∧ ∀ ns fs, Q' ns fs → ∀ us H', (∀ b u, b ≠ x → H b = some u → H' b = some u) → H' x = some (.ins C dx (ns.zip us)) → ns.length = us.length → DvL K ca H' (fun b => ¬ B b) fs us → Q .non H'
def spMake (c : Str) (sp : DIn) : DSp := fun ds Q F => sp ds (fun ns fs => Q (.obj c ns fs)) F
section
variable {P : Program} {w : World} {K : PySem.W.Frag} {mg : Str → Option Value} {base : Heap} {ca : Str → Addr} {k : Nat} {f : Addr} {c : Str} {sp : DIn}
theorem Cal.make (M : Mk K (ca c) f) (F : FnR P w K mg base CX0 k f (LIn K ca (ca c) sp)) : Cal P w K mg base ca (k + 1) (ca c) (spMake c sp) :=
  ⟨M.kp, fun X e1 e2 e3 e4 e5 hr => by
    subst e1 e2 e3 e4 e5
    intro pins s σ H xs us Q I rv ⟨B, ds, Q', hB, hd, hs, imp⟩
    refine StX.run_makeR M F hr pass0 I rv fun x dx hx hdx hne => ?_
    have s1 : Same H (upd H dx (.own x)) := same_new hdx
    have hx1 : upd H dx (.own x) x = none := by rw [upd_ne (Ne.symm hne)]; exact hx
    have s2 : Same H (upd (upd H dx (.own x)) x (.ins (ca c) dx [])) := s1.trans (same_new hx1)
    refine ⟨x, dx, xs, fun b => B b ∨ b = x ∨ b = dx, ds, fun ns fs => Q' (.obj c ns fs), rfl, upd_same, fun b hb z => ?_, .inr (.inl rfl), DvL.mono (fun b u hb hu => ⟨fun z => z.elim hb fun z => z.elim (ne_of_none hu hx) (ne_of_none hu hdx), s2 _ _ hu⟩) _ _ hd, hs, fun ns fs q us' H' hk hx' hl hfs => ⟨rfl, ?_⟩⟩
    · rcases hb with hb | hb | hb
      · cases q : H b with
        | none => exact hB b hb q
        | some u => rw [s2 _ _ q] at z; cases z
      · rw [hb, upd_same] at z
        cases z
      · rw [hb, upd_ne hne, upd_same] at z
        cases z
    · refine imp _ q _ H' (fun b u hu => hk b u (ne_of_none hu hx) (s2 _ _ hu)) ⟨x, dx, us', rfl, fun z => hB x z hx, hx', hl, DvL.mono (Stp.weak fun b hb z => hb (.inl z)) _ _ hfs⟩⟩
end
/-! ### some statements, then what is read by hand -/
def LSx (K : PySem.W.Frag) (ca : Str → Addr) (H0 : Hp) (B : Addr → Prop) (t : TDS) (U : TS) : TS := fun D σ H => LS K ca H0 B t { D with nx := U D } σ H
structure DSx (X : Cx) (ca : Str → Addr) (H0 : Hp) (x : List Stmt) (t : TDS) (U : TS) : Prop where
  ps : ∀ B, PSs X x (LSx X.K ca H0 B t U)
section
variable {X : Cx} {ca : Str → Addr} {H0 : Hp} {st : Stmt} {rest : List Stmt} {t u : TDS} {U : TS}
theorem dsx_nil (h : PSs X rest U) : DSx X ca H0 rest dNext U := ⟨fun B => pss_imp h fun D σ H ⟨e, o, D', R, q, en⟩ => en.1 e q σ H o R Stp.refl⟩
theorem dsx_cons (h1 : DSt X ca H0 st t) (h2 : DSx X ca H0 rest u U) : DSx X ca H0 (st :: rest) (dSeq t u) U := ⟨fun B => pss_imp (pss_cons (h1.ps B) (h2.ps B)) fun D σ H ⟨e, o, D', R, q, en⟩ =>
  ⟨e, o, { D' with nx := u D' }, R, q, fun e1 q1 σ1 H1 o1 R1 s1 => ⟨e1, o1, D', R1, q1, en.from s1⟩, en.2.1, en.2.2.1, en.2.2.2⟩⟩
end
/-- __init__(self, .., ) whose last statement is self.fl = the name in slot i -/
def DoesI (n : Nat) (T : TDS) (i : Nat) (fl : Str) (sp : DIn) : Prop := ∀ (x : Addr) ds Q, sp ds Q DX0 → T { nx := fun e => e[0]? = some (.sh (.adr x)) ∧ ∃ d, e[i]? = some (.sh d) ∧ Q [fl] [d], rt := fun _ => False } (startE n (.adr x :: ds))
section
variable {P : Program} {w : World} {K : PySem.W.Frag} {mg : Str → Option Value} {base : Heap} {ca : Str → Addr} {k : Nat} {f : Addr} {fd : FuncData} {name qual : Str} {params : Arguments} {body : List Stmt} {scope : Scope} {N ps : List Str} {sp : DIn} {T : TDS} {C : Addr} {i : Nat} {fl : Str}
def uFld (K : PySem.W.Frag) (i : Nat) (fl : Str) : TS := sFld K (tVar 0) (tVar i) fl
theorem init_start {H : Hp} {vs : List V} {Q : VK} {E : XK} (hc : Cls K C) (hn : NoAttr K C fl) (hT : DoesI N.length T i fl sp) (hl : ∀ ds Q, sp ds Q DX0 → ds.length + 1 ≤ N.length) (h : LIn K ca C sp vs H Q E) :
    ∃ B, LSx K ca H B T (uFld K i fl) { nx := fun _ H' => Q .non H', rt := Q } (L2.start N vs) H := by
  obtain ⟨x, dx, ws, B, ds, Q', ev, hx, hB, hBx, hd, hs, imp⟩ := h
  subst ev
  have hd' : DvL K ca H (fun b => ¬ B b) (.adr x :: ds) (.ref x :: ws) := ⟨.ref x, ws, rfl, rfl, hd⟩
  refine ⟨B, startE N.length (.adr x :: ds), fun _ => 0, _, rep_start hB hd' (by have := hl ds Q' hs; simp; omega), hT x ds Q' hs, fun e' ⟨q0, d, q1, q2⟩ σ' H' o' R st => ?_, fun d z => z.elim, fun e z => z.elim, fun e z => z.elim⟩
  obtain ⟨v, e1, hv⟩ := R.sh i d q1
  obtain ⟨v0, e2, hv0⟩ := R.sh 0 _ q0
  have e3 : v0 = .ref x := hv0
  subst e3
  have hx' := R.sm _ _ hx
  refine ⟨v, e1, _, e2, x, C, dx, [], rfl, hx', hc, hn, by show 0 < 1000; decide, ?_⟩
  refine imp [fl] [d] q2 [v] _ (fun b u hb hu => by rw [upd_ne hb]; exact R.sm _ _ hu) upd_same rfl (.cons (Dv.mono (fun b u hb hu => ⟨hb.1, ?_⟩) _ _ hv) .nil)
  rw [upd_ne fun z => hb.1 (by rw [z]; exact hBx)]
  exact hu
theorem fr_init (hc : Cls K C) (hn : NoAttr K C fl) (F : FunD K name qual params body scope [] [] f fd) (S : FnScope N ps scope) (hb : Binds K fd ps []) (hl : ∀ ds Q, sp ds Q DX0 → ds.length + 1 = ps.length) (hN : ps.length ≤ N.length)
    (hD : ∀ (cdv : Value) (A : Around) (outer : List Env) (s : Shared) (H : Hp) (E : XK), Room k (A.deeper (PyProof.Rows.envOfC qual scope s.heap.objs.size f cdv)) → DSx (cxOf CX0 P w K mg base N qual scope f cdv A outer s H E) ca H body T (uFld K i fl))
    (hT : DoesI N.length T i fl sp) : FnR P w K mg base CX0 (k + 1) f (LIn K ca C sp) := by
  have G : FnOk P w K mg base CX0 (k + 1) f fd ps (LIn K ca C sp) := F.ok S (fun vs H Q E ⟨x, dx, ws, B, ds, Q', ev, hx, hB, hBx, hd, hs, imp⟩ => by rw [ev, List.length_cons, ← hd.length]; exact hl ds Q' hs) fun cdv A outer s H vs Q E hr h => by
    obtain ⟨B, h1⟩ := init_start (N := N) (T := T) hc hn hT (fun ds Q hs => by rw [hl ds Q hs]; exact hN) h
    exact ⟨_, (hD cdv A outer s H E hr).ps B, h1⟩
  simpa using G.raw hb .nil
/-- __init__(self, .., *v) -/
def inStar (n : Nat) (sp : DIn) : DIn := fun ds Q F => n ≤ ds.length ∧ (ds.drop n).length ≤ sizeLine ∧ sp (ds.take n ++ [.tup (ds.drop n)]) Q F
theorem fr_initStar {pv p0 : Str} (hc : Cls K C) (hn : NoAttr K C fl) (F : FunD K name qual params body scope [] [] f fd) (S : FnScope N ((p0 :: ps) ++ [pv]) scope)
    (hb : ∀ (kV doc pm : Value) (an : Option Addr) (cdv ct : Value) (us rest : List Value), us.length = (p0 :: ps).length → bindArgs (PySem.W.fnOf name qual params body scope .none kV doc pm an cdv ct) ⟨us ++ rest, []⟩ = (newTuple rest >>= fun t => pure ((p0 :: ps).zip us ++ [(pv, t)])))
    (hl : ∀ ds Q, sp ds Q DX0 → ds.length = ps.length + 1) (hN : ps.length + 2 ≤ N.length)
    (hD : ∀ (cdv : Value) (A : Around) (outer : List Env) (s : Shared) (H : Hp) (E : XK), Room k (A.deeper (PyProof.Rows.envOfC qual scope s.heap.objs.size f cdv)) → DSx (cxOf CX0 P w K mg base N qual scope f cdv A outer s H E) ca H body T (uFld K i fl))
    (hT : DoesI N.length T i fl sp) : FnR P w K mg base CX0 (k + 1) f (LIn K ca C (inStar ps.length sp)) := by
  obtain ⟨oc, od, dV, kV, doc, pm, an, cdv, ct, osl, rfl, lk, hcd, hD0, _⟩ := F.ex
  have e0 : dV = .none := by
    rcases hD0 with ⟨_, e⟩ | ⟨e, _⟩
    · exact e
    · exact absurd rfl e
  subst e0
  have G := StX.fn_star (P := P) (w := w) (mg := mg) (base := base) (k := k) (sp := LIn K ca C sp) lk hcd S StX.cxUp_none (hb kV doc pm an cdv ct) fun A outer s H vs Q E hr h => by
    obtain ⟨B, h1⟩ := init_start (N := N) (T := T) hc hn hT (fun ds Q hs => by rw [hl ds Q hs]; omega) h
    exact ⟨_, (hD cdv A outer s H E hr).ps B, h1⟩
  refine G.imp fun vs H Q E ⟨x, dx, ws, B, ds, Q', ev, hx, hB, hBx, hd, ⟨h1, h2, hs⟩, imp⟩ => ?_
  subst ev
  have hlen := hd.length
  refine ⟨.ref x :: ws.take ps.length, ws.drop ps.length, by rw [List.cons_append, List.take_append_drop], by rw [List.length_cons, List.length_cons, List.length_take]; omega, by rw [List.length_drop, ← hlen, ← List.length_drop]; exact h2, fun p hp => ?_⟩
  have sm := same_new (u := .tup (ws.drop ps.length)) hp
  have hd2 := DvL.mono (Stp.same sm) _ _ hd
  refine ⟨x, dx, _, B, _, Q', rfl, sm _ _ hx, fun b hb z => ?_, hBx, (hd2.take ps.length).append (.cons (d := D.tup (ds.drop ps.length)) (Dv.newT (fun z => hB p z hp) upd_same (hd2.drop ps.length)) .nil), hs, fun ns fs q us H' hk hx' hl' hfs => imp ns fs q us H' (fun b u hb hu => hk b u hb (sm _ _ hu)) hx' hl' hfs⟩
  have h3 := hB b hb
  by_cases hbp : b = p
  · rw [hbp] at h3
    exact h3 hp
  · rw [upd_ne hbp] at z
    exact h3 z
end
end DL
set_option Elab.async false
set_option linter.all false
set_option maxRecDepth 100000
set_option maxHeartbeats 4000000
/-! DT: operators and classmethods of a class of the text, isinstance, texts split and joined, comprehensions with two clauses -/
namespace DL
open PySem PySem.Spec L2

/-! ### operators of a class -/
def OpB (P : Program) (w : World) (K : PySem.W.Frag) (mg : Str → Option Value) (base : Heap) (ca : Str → Addr) (k : Nat) (c : Str) (op : Operator) (sp : DSp) : Prop :=
  ∃ g, PySem.W.selfFirst K (ca c) = true ∧ PySem.W.findIn K (.ref (ca c)) (PySem.dunder op.info.2) = some (some (.ref g)) ∧ PySem.W.isFn K (.ref g) = true ∧ FnR P w K mg base CX0 k g (LSp K ca sp)
def OpC (P : Program) (w : World) (K : PySem.W.Frag) (mg : Str → Option Value) (base : Heap) (ca : Str → Addr) (k : Nat) (c : Str) (op : CmpOp) (sp : DSp) : Prop :=
  ∃ g, PySem.W.findIn K (.ref (ca c)) (cmpInfo op).2.1 = some (some (.ref g)) ∧ PySem.W.isFn K (.ref g) = true ∧ FnR P w K mg base CX0 k g (LSp K ca sp)
/-- != by == -/
def OpN (P : Program) (w : World) (K : PySem.W.Frag) (mg : Str → Option Value) (base : Heap) (ca : Str → Addr) (k : Nat) (c : Str) (sp : DSp) : Prop :=
  ∃ g, PySem.W.findIn K (.ref (ca c)) "__ne__" = some (some (.builtin "object.__ne__")) ∧ PySem.W.findIn K (.ref (ca c)) "__eq__" = some (some (.ref g)) ∧ PySem.W.isFn K (.ref g) = true ∧ PySem.W.mroIn K (ca c) (.type "object") = some true ∧
    FnR P w K mg base CX0 k g (LSp K ca sp)
def dOwnOp (c : Str) (sp : DSp) (ta tb : TDO) : TD := fun e Q => ta e fun a e1 => tb e1 fun b e2 => ∃ ns ds ms es, look e2 a = some (.obj c ns ds) ∧ look e2 b = some (.obj c ms es) ∧ sp [.obj c ns ds, .obj c ms es] (fun d => Q d e2) DX0
def dOwnNe (c : Str) (sp : DSp) (ta tb : TDO) : TD := fun e Q => ta e fun a e1 => tb e1 fun b e2 => ∃ ns ds ms es, look e2 a = some (.obj c ns ds) ∧ look e2 b = some (.obj c ms es) ∧ sp [.obj c ns ds, .obj c ms es] (fun d => ∃ k, d = .bl k ∧ Q (.bl (!k)) e2) DX0
section
variable {X : Cx} {ca : Str → Addr} {H0 : Hp} {x y z : Expr} {pos p p2 pos2 apos : Pos} {c : Str} {sp : DSp} {ta tb : TDO} {k : Nat}
theorem DvW.dv_obj {K : PySem.W.Frag} {H : Hp} {kk : Addr → Prop} {ns : List Str} {ds : List D} {v : V} (h : DvW K ca H kk (.obj c ns ds) v) : Dv K ca H kk (.obj c ns ds) v := by
  rcases h with h | ⟨ys, p, vs, e1, e2, e3, h⟩
  · exact h
  · cases e1
theorem le_ownOp {K : PySem.W.Frag} {B : Addr → Prop} (E : XK) : ∀ σ H Q, LE K ca H0 B (dOwnOp c sp ta tb) σ H Q → tOp (rOwnI (ca c) (LSp K ca sp) E) (LO K ca H0 B ta) (LO K ca H0 B tb) σ H Q := fun σ H Q ⟨e, o, Q', R, q, imp⟩ =>
  ⟨e, o, _, R, q, fun a e1 q1 v H1 o1 R1 s1 h1 => ⟨e1, o1, _, R1, q1, fun b e2 ⟨ns, ds, ms, es, hx, hy, q2⟩ u H2 o2 R2 s2 h2 => by
    have g1 := R2.look (h1.mono s2.a) hx
    have g2 := R2.look h2 hy
    obtain ⟨p, dx, vs, e3, h3, _⟩ := g1.obj
    obtain ⟨p', dy, ws, e4, h4, _⟩ := g2.obj
    exact ⟨p, dx, _, p', dy, _, e3, e4, h3, h4, fun b => ¬ okA B e2 o2 b, _, fun d => Q' d e2, not_okA R2, DvL.mono (Stp.weak fun b z => not_not_intro z) _ _ (.cons g1.dv_obj (.cons g2.dv_obj .nil)), q2, fun d qd v H3 s3 hv =>
      imp d e2 qd v H3 o2 (R2.grow s3) ((s1.trans s2).trans (Stp.same s3)) (Dv.mono (Stp.weak fun b z => Classical.not_not.mp z) _ _ hv)⟩⟩⟩
theorem le_ownNe {K : PySem.W.Frag} {B : Addr → Prop} (E : XK) : ∀ σ H Q, LE K ca H0 B (dOwnNe c sp ta tb) σ H Q → tOp (rOwnNe (ca c) (LSp K ca sp) E) (LO K ca H0 B ta) (LO K ca H0 B tb) σ H Q := fun σ H Q ⟨e, o, Q', R, q, imp⟩ =>
  ⟨e, o, _, R, q, fun a e1 q1 v H1 o1 R1 s1 h1 => ⟨e1, o1, _, R1, q1, fun b e2 ⟨ns, ds, ms, es, hx, hy, q2⟩ u H2 o2 R2 s2 h2 => by
    have g1 := R2.look (h1.mono s2.a) hx
    have g2 := R2.look h2 hy
    obtain ⟨p, dx, vs, e3, h3, _⟩ := g1.obj
    obtain ⟨p', dy, ws, e4, h4, _⟩ := g2.obj
    refine ⟨p, dx, _, p', dy, _, e3, e4, h3, h4, fun b => ¬ okA B e2 o2 b, _, _, not_okA R2, DvL.mono (Stp.weak fun b z => not_not_intro z) _ _ (.cons g1.dv_obj (.cons g2.dv_obj .nil)), q2, fun d ⟨k, ek, qd⟩ v H3 s3 hv => ?_⟩
    subst ek
    exact ⟨k, hv, imp _ e2 qd _ H3 o2 (R2.grow s3) ((s1.trans s2).trans (Stp.same s3)) rfl⟩⟩⟩
theorem de_ownB {op : Operator} (h : OpB X.prog X.w X.K X.mg X.base ca k c op sp) (hr : Room k X.A) (ha : DO X ca H0 x ta) (hb : DO X ca H0 y tb) : DE X ca H0 (.BinOp x op y pos) (dOwnOp c sp ta tb) := by
  obtain ⟨g, h1, h2, h3, F⟩ := h
  exact ⟨fun B => pe_imp (pe_op (op_ownB (E := E0) h1 h2 h3 F hr pass0) (ha.pe B) (hb.pe B)) (le_ownOp E0)⟩
theorem de_ownC {op : CmpOp} (h : OpC X.prog X.w X.K X.mg X.base ca k c op sp) (hr : Room k X.A) (ha : DO X ca H0 x ta) (hb : DO X ca H0 y tb) (hop : ∀ a b, compareOp op a b = richCompare op a b := by intro _ _; rfl) (hm : behindInMarks op y = false := by rfl) : DE X ca H0 (.Compare x [op] [y] pos) (dOwnOp c sp ta tb) := by
  obtain ⟨g, h2, h3, F⟩ := h
  exact ⟨fun B => pe_imp (pe_cmpR (op_ownC (E := E0) hop h2 h3 F hr pass0) (ha.pe B) (hb.pe B) hm) (le_ownOp E0)⟩
theorem de_ownN (h : OpN X.prog X.w X.K X.mg X.base ca k c sp) (hr : Room (k + 1) X.A) (ha : DO X ca H0 x ta) (hb : DO X ca H0 y tb) (hm : behindInMarks .NotEq y = false := by rfl) : DE X ca H0 (.Compare x [.NotEq] [y] pos) (dOwnNe c sp ta tb) := by
  obtain ⟨g, h1, h2, h3, h4, F⟩ := h
  exact ⟨fun B => pe_imp (pe_cmpR (op_ownNe (E := E0) h1 h2 h3 h4 F hr pass0) (ha.pe B) (hb.pe B) hm) (le_ownNe E0)⟩
theorem dt_ownC {op : CmpOp} (h : OpC X.prog X.w X.K X.mg X.base ca k c op sp) (hr : Room k X.A) (ha : DO X ca H0 x ta) (hb : DO X ca H0 y tb) (hop : ∀ a b, compareOp op a b = richCompare op a b := by intro _ _; rfl) (hm : behindInMarks op y = false := by rfl) : DT X ca H0 (.Compare x [op] [y] pos) (dTest (dOwnOp c sp ta tb)) := by
  obtain ⟨g, h2, h3, F⟩ := h
  exact ⟨fun B => pt_imp (pt_cmpR (op_ownC (E := E0) hop h2 h3 F hr pass0) (ha.pe B) (hb.pe B) hm) (lt_test (le_ownOp E0))⟩
theorem dt_ownN (h : OpN X.prog X.w X.K X.mg X.base ca k c sp) (hr : Room (k + 1) X.A) (ha : DO X ca H0 x ta) (hb : DO X ca H0 y tb) (hm : behindInMarks .NotEq y = false := by rfl) : DT X ca H0 (.Compare x [.NotEq] [y] pos) (dTest (dOwnNe c sp ta tb)) := by
  obtain ⟨g, h1, h2, h3, h4, F⟩ := h
  exact ⟨fun B => pt_imp (pt_cmpR (op_ownNe (E := E0) h1 h2 h3 h4 F hr pass0) (ha.pe B) (hb.pe B) hm) (lt_test (le_ownNe E0))⟩
/-! ### classmethods -/
def dCMeth (c : Str) (sp : DSp) (t : TDF) : TD := fun e Q => t e fun ds e' => sp (.cls c :: ds) (fun d => Q d e') DX0
/-- C.m, a classmethod -/
def CMt (P : Program) (w : World) (K : PySem.W.Frag) (mg : Str → Option Value) (base : Heap) (ca : Str → Addr) (k : Nat) (c m : Str) (sp : DSp) : Prop :=
  ∃ mc pr g, ClX.CRead K (ca c) mc ∧ ClX.CMet K (ca c) mc m pr g ∧ FnR P w K mg base CX0 k g (LSp K ca sp)
theorem de_cmeth {m n : Str} {es : List Expr} {t : TDF} {pl : Sem Bool} {np : Pos} (h : CMt X.prog X.w X.K X.mg X.base ca k c m sp) (hr : Room k X.A) (hg : Gl X n) (hm : X.mg n = some (.ref (ca c))) (ha : DA X ca H0 (x :: es) t)
    (hst : starEach (x :: es) X.env = (false, eval x X.env) :: starEach es X.env := by rfl) (hpl : (backTo pos (starEach es X.env)).any (·.1) = false := by rfl)
    (ht : eval (.Call (.Attribute (.Name n np) m apos) (x :: es) [] pos) X.env = (do
      let ov ← eval (.Name n np) X.env
      standAt apos.atName
      let (f, first) ← holding [ov] (getMethod ov m pl)
      callWith pos f first (backTo pos (starEach (x :: es) X.env)) (backToKw pos (keywordEach [] X.env))) := by rfl) (hdb : (n == ("__debug__" : Str)) = false := by decide) :
    DE X ca H0 (.Call (.Attribute (.Name n np) m apos) (x :: es) [] pos) (dCMeth c sp t) := by
  obtain ⟨mc, pr, g, h1, h2, F⟩ := h
  exact ⟨fun B => pe_imp (ClX.pe_cmeth (E := E0) (pe_glob hg hm (v := .ref (ca c)) rfl hdb) h1 h2 F hr pass0 (ha.pa B) hst hpl ht) fun σ H Q ⟨e, o, Q', R, q, imp⟩ =>
    ⟨rfl, e, o, _, R, q, fun ds e1 q1 vs H1 o1 R1 s1 hd => ⟨fun b => ¬ okA B e1 o1 b, _, fun d => Q' d e1, not_okA R1, DvL.mono (Stp.weak fun b z => not_not_intro z) _ _ (.cons (d := .cls c) rfl hd), q1, fun d qd v H2 s2 hv =>
      imp d e1 qd v H2 o1 (R1.grow s2) (s1.trans (Stp.same s2)) (Dv.mono (Stp.weak fun b z => Classical.not_not.mp z) _ _ hv)⟩⟩⟩
/-! ### names of types and classes; isinstance -/
theorem de_glob {n : Str} {d : D} {v : V} {u : Value} (hg : Gl X n) (hm : X.mg n = some u) (r : RelV v u) (hd : ∀ H k, Dv X.K ca H k d v) (hdb : (n == ("__debug__" : Str)) = false := by decide) : DE X ca H0 (.Name n pos) (dC d) := de_c (pe_glob hg hm r hdb) hd
theorem pe_bltn {n : Str} {v : V} {u : Value} (hg : Gl X n) (hm : X.mg n = none) (hv : bootBuiltins n = some u) (r : RelV v u) (hn : n ≠ "__name__" := by decide) (hdb : (n == ("__debug__" : Str)) = false := by decide) : PE X (.Name n pos) (tC v) :=
  ⟨fun pins s σ H Q I h => ld_blt I hg hm hv ⟨v, H, I, r, h⟩ hn hdb⟩
theorem de_bty {n : Str} {T : String} (hg : Gl X n) (hm : X.mg n = none) (hv : bootBuiltins n = some (.type T)) (hn : n ≠ "__name__" := by decide) (hdb : (n == ("__debug__" : Str)) = false := by decide) : DE X ca H0 (.Name n pos) (dC (.ty T)) := de_c (pe_bltn (v := .ty T) hg hm hv rfl hn hdb) fun _ _ => rfl
theorem de_cls {n : Str} (hg : Gl X n) (hm : X.mg n = some (.ref (ca c))) (hdb : (n == ("__debug__" : Str)) = false := by decide) : DE X ca H0 (.Name n pos) (dC (.cls c)) := de_c (pe_glob (v := .ref (ca c)) hg hm rfl hdb) fun _ _ => rfl
def tyD (ca : Str → Addr) : D → Option Value
  | .non => some (.type "NoneType")
  | .bl _ => some (.type "bool")
  | .int _ => some (.type "int")
  | .str _ => some (.type "str")
  | .lst _ => some (.type "list")
  | .klst _ => some (.type "list")
  | .tup _ => some (.type "tuple")
  | .obj c _ _ => some (.ref (ca c))
  | .dct _ _ => some (.type "dict")
  | _ => none
def clsV (ca : Str → Addr) : D → Option Value
  | .ty T => some (.type T)
  | .cls c => some (.ref (ca c))
  | _ => none
/-- what of the text isinstance asks of a class of the text -/
structure ClsI (K : PySem.W.Frag) (C : Addr) : Prop where
  cl : Cls K C
  ha : PySem.W.findIn K (.ref C) "__class__" = some (some (.builtin "object.__class__"))
  hn : PySem.W.specialIn K (.builtin "object.__class__") "__get__" = some (some (.builtin "getset_descriptor.__get__"))
  htk : PySem.W.takesIn K (.builtin "object.__class__") = some true
  hm : PySem.W.mroIn K C (.type "object") = some true
def fIsi (K : PySem.W.Frag) (ca : Str → Addr) : List D → Option D
  | [d, c] => match tyD ca d, clsV ca c with
    | some t, some u => (PySem.W.kitOne K t u).map D.bl
    | _, _ => none
  | _ => none
theorem tyx_of {K : PySem.W.Frag} {H : Hp} {k : Addr → Prop} (hI : ∀ c, ClsI K (ca c)) {d : D} {v : V} {t : Value} (h1 : DvW K ca H k d v) (q1 : tyD ca d = some t) : TyX K H v t := by
  cases d with
  | non =>
    have e2 : Value.type "NoneType" = t := Option.some.inj q1
    rw [h1.non, ← e2]
    exact .base .non
  | bl z =>
    have e2 : Value.type "bool" = t := Option.some.inj q1
    rw [h1.bl, ← e2]
    exact .base (.bl z)
  | int z =>
    have e2 : Value.type "int" = t := Option.some.inj q1
    rw [h1.int, ← e2]
    exact .base (.int z)
  | str z =>
    have e2 : Value.type "str" = t := Option.some.inj q1
    rw [h1.str, ← e2]
    exact .base (.str z)
  | lst xs =>
    have e2 : Value.type "list" = t := Option.some.inj q1
    obtain ⟨p, ws, e3, h3, _⟩ := h1.lstH
    rw [e3, ← e2]
    exact .base (.lst h3)
  | klst xs =>
    have e2 : Value.type "list" = t := Option.some.inj q1
    obtain ⟨p, ws, e3, h3, _⟩ := h1.ls (xs := xs) rfl
    rw [e3, ← e2]
    rcases h3 with (h3 | ⟨o, h3⟩) | ⟨o, its, n, g1, g2, _⟩
    · exact .base (.lst h3)
    · exact .base (.frz h3)
    · exact .kList g1 g2
  | tup xs =>
    have e2 : Value.type "tuple" = t := Option.some.inj q1
    obtain ⟨p, ws, e3, h3, _⟩ := h1.tup
    rw [e3, ← e2]
    rcases h3 with (h3 | ⟨o, h3⟩) | ⟨o, its, n, g1, g2, _⟩
    · exact .base (.tup h3)
    · exact .fTuple h3
    · exact .kTuple g1 g2
  | obj c ns fs =>
    have e2 : Value.ref (ca c) = t := Option.some.inj q1
    obtain ⟨p, dx, ws, e3, h3, _⟩ := h1.obj
    rw [e3, ← e2]
    exact .base (.ins h3 (hI c).cl (hI c).ha (hI c).hn (hI c).htk (hI c).hm)
  | dct ks fs =>
    have e2 : Value.type "dict" = t := Option.some.inj q1
    rcases h1 with h1 | ⟨_, _, _, e1, _⟩
    · obtain ⟨p, ws, e3, _, h3, _⟩ := h1
      rw [e3, ← e2]
      exact .base (.dK h3)
    · cases e1
  | _ => cases q1
theorem cd_isi {K : PySem.W.Frag} (hI : ∀ c, ClsI K (ca c)) : CallD K ca (fIsi K ca) (rIsi K) := by
  intro H k ds b vs Q hk hd hf hQ
  match ds, hf with
  | [d, c], hf =>
    obtain ⟨v, w, e, h1, h2⟩ := dvwl_two hd
    have hf' : (match tyD ca d, clsV ca c with
      | some t, some u => (PySem.W.kitOne K t u).map D.bl
      | _, _ => none) = some b := hf
    cases q1 : tyD ca d with
    | none => rw [q1] at hf'; cases hf'
    | some t =>
      cases q2 : clsV ca c with
      | none => rw [q1, q2] at hf'; cases hf'
      | some u =>
        rw [q1, q2] at hf'
        have hf2 : (PySem.W.kitOne K t u).map D.bl = some b := hf'
        cases q3 : PySem.W.kitOne K t u with
        | none => rw [q3] at hf2; cases hf2
        | some a =>
          rw [q3] at hf2
          have e1 : D.bl a = b := Option.some.inj hf2
          subst e1
          have hc : ClsV w u := by
            rcases h2 with h2 | ⟨_, _, _, e1, _⟩
            · cases c with
              | ty T =>
                have e1 : w = .ty T := h2
                have e2 : Value.type T = u := Option.some.inj q2
                rw [e1, ← e2]
                exact .ty T
              | cls c =>
                have e1 : w = .ref (ca c) := h2
                have e2 : Value.ref (ca c) = u := Option.some.inj q2
                rw [e1, ← e2]
                exact .own _
              | _ => cases q2
            · subst e1
              cases q2
          exact ⟨v, w, t, u, a, e, hc, tyx_of hI h1 q1, q3, hQ _ _ (Same.refl _) rfl⟩
/-! ### texts split and joined -/
def fSplit (t u : TDO) : TDF := fun e Q => t e fun a e1 => (∃ s, look e1 a = some (.str s)) ∧ u e1 fun b e2 => ∃ s r, look e2 a = some (.str s) ∧ look e2 b = some (.str r) ∧ (r.length == 0) = false ∧ s.length + 2 ≤ sizeLine ∧ Q ((Txt.split s r).map D.str) e2
theorem df_split {t u : TDO} (ho : DO X ca H0 x t) (he : DO X ca H0 y u) (hs : starEach [y] X.env = [(false, eval y X.env)] := by rfl) (hbase : attributeBase x "split" X.env (eval x X.env) = eval x X.env := by rfl) (hline : (apos.endLine == pos.line) = true := by rfl) :
    DF X ca H0 (.Call (.Attribute x "split" apos) [y] [] pos) (fSplit t u) :=
  ⟨fun B => pe_imp (pe_split (ho.pe B) (he.pe B) hs hbase hline) fun σ H Q ⟨e, o, Q', R, q, imp⟩ => ⟨e, o, _, R, q, fun a e1 ⟨⟨s, hl⟩, q1⟩ v H1 o1 R1 s1 h1 => ⟨⟨s, (R1.look h1 hl).str⟩, e1, o1, _, R1, q1, fun b e2 ⟨s', r, hs', hr, hz, hn, q2⟩ w H2 o2 R2 s2 h2 =>
    ⟨s', r, (R2.look (h1.mono s2.a) hs').str, by rw [(R2.look h2 hr).str], hz, hn, fun p hp => imp _ e2 q2 p _ _ o2 (R2.shut hp) ((s1.trans s2).trans (Stp.same (same_new hp))) upd_same (fun b u hb hu => ne_of_none ((s1.trans s2) b u hb hu).2 hp) (R2.fr0 hp) (R2.nB hp) (R2.nOwn hp) (DvL.of_strs _)⟩⟩⟩⟩
def dJoin (t u : TDO) : TD := fun e Q => t e fun a e1 => (∃ s, look e1 a = some (.str s)) ∧ u e1 fun b e2 => ∃ s d xs ys, look e2 a = some (.str s) ∧ look e2 b = some d ∧ seqD d = some xs ∧ strsOf xs = some ys ∧ (ys.map (·.length)).sum + ys.length * s.length ≤ 16777216 ∧ Q (.str (Txt.join s ys)) e2
theorem de_join {t u : TDO} (ho : DO X ca H0 x t) (he : DO X ca H0 y u) (hs : starEach [y] X.env = [(false, eval y X.env)] := by rfl) (hbase : attributeBase x "join" X.env (eval x X.env) = eval x X.env := by rfl) (hline : (apos.endLine == pos.line) = true := by rfl) :
    DE X ca H0 (.Call (.Attribute x "join" apos) [y] [] pos) (dJoin t u) :=
  ⟨fun B => pe_imp (pe_join (ho.pe B) (he.pe B) hs hbase hline) fun σ H Q ⟨e, o, Q', R, q, imp⟩ => ⟨e, o, _, R, q, fun a e1 ⟨⟨s, hl⟩, q1⟩ v H1 o1 R1 s1 h1 => ⟨⟨s, (R1.look h1 hl).str⟩, e1, o1, _, R1, q1, fun b e2 ⟨s', d, xs, ys, hs', hd, hx, hy, hn, q2⟩ w H2 o2 R2 s2 h2 => by
    have e3 := strsOf_eq hy
    subst e3
    obtain ⟨p, vs, e4, h3, h4⟩ := seq_of (R2.look h2 hd) hx
    have e5 := h4.strs
    subst e5
    exact ⟨s', p, ys, (R2.look (h1.mono s2.a) hs').str, by rw [e4], h3.elim .inr .inl, hn, imp _ e2 q2 _ H2 o2 R2 (s1.trans s2) rfl⟩⟩⟩⟩
end
end DL
set_option Elab.async false
set_option linter.all false
set_option maxRecDepth 100000
set_option maxHeartbeats 4000000
/-! DV: comprehensions with two clauses -/
namespace DL
open PySem PySem.Spec L2

def lcI (C1 : DEnv → Prop) (vs1 : List Nat) (g1 : TDG) (tt1 : TDT) (te : TD) (Kt : List D → DEnv → Prop) : List D → List D → DEnv → Prop
  | [], acc, e => C1 e ∧ Kt acc e
  | y :: ys, acc, e => C1 e ∧ g1 y e fun e1 => tt1 e1 fun b e2 => if b = true then te e2 fun z e3 => acc.length < sizeLine ∧ lcI C1 vs1 g1 tt1 te Kt ys (acc ++ [z]) (wipeE e3 vs1) else lcI C1 vs1 g1 tt1 te Kt ys acc (wipeE e2 vs1)
def lcO (C : DEnv → Prop) (vs vs1 : List Nat) (g : TDG) (tt : TDT) (src1 : TDI) (g1 : TDG) (tt1 : TDT) (te : TD) (Q : List D → DEnv → Prop) : List D → List D → DEnv → Prop
  | [], acc, e => C e ∧ Q acc e
  | x :: r, acc, e => C e ∧ g x e fun e1 => tt e1 fun b e2 => if b = true then src1 e2 fun ys C1 e3 => lcI C1 vs1 g1 tt1 te (fun acc e4 => lcO C vs vs1 g tt src1 g1 tt1 te Q r acc (wipeE e4 vs)) ys acc (wipeE e3 vs1) else lcO C vs vs1 g tt src1 g1 tt1 te Q r acc (wipeE e2 vs)
/-- [te for g in src if tt for g1 in src1 if tt1]; vs: the block's slots, vs1: those of the inner clause -/
def fLc2 (src : TDI) (vs : List Nat) (g : TDG) (tt : TDT) (src1 : TDI) (vs1 : List Nat) (g1 : TDG) (tt1 : TDT) (te : TD) : TDF := fun e Q => src e fun xs C e1 => lcO C vs vs1 g tt src1 g1 tt1 te Q xs [] (wipeE e1 vs)
theorem pi_ex {X : Cx} {tg e : Expr} {t : (Addr → Prop) → TI} (h : ∀ B, PI X tg e (t B)) : PI X tg e (fun σ H R => ∃ B, t B σ H R) := ⟨fun pins s σ H Q I ⟨B, q⟩ => (h B).run pins s σ H Q I q⟩
section
variable {K : PySem.W.Frag} {ca : Str → Addr} {H0 : Hp} {B : Addr → Prop}
theorem lcI_C {C1 : DEnv → Prop} {vs1 : List Nat} {g1 : TDG} {tt1 : TDT} {te : TD} {Kt : List D → DEnv → Prop} : ∀ {xs acc : List D} {e : DEnv}, lcI C1 vs1 g1 tt1 te Kt xs acc e → C1 e
  | [], _, _, h => h.1
  | _ :: _, _, _, h => h.1
theorem lcO_C {C : DEnv → Prop} {vs vs1 : List Nat} {g : TDG} {tt : TDT} {src1 : TDI} {g1 : TDG} {tt1 : TDT} {te : TD} {Q : List D → DEnv → Prop} : ∀ {xs acc : List D} {e : DEnv}, lcO C vs vs1 g tt src1 g1 tt1 te Q xs acc e → C e
  | [], _, _, h => h.1
  | _ :: _, _, _, h => h.1
/-- the list that is being made grows: nothing else sees it -/
theorem grow_rep {D : Addr} {H6 : Hp} {σ3 : L2.St} {e5 : DEnv} {o5 : Nat → Addr} {ws : List V} (hD0 : H0 D = none) (R5 : Rep K ca (fun b => B b ∨ b = D) H0 H6 σ3 e5 o5) :
    Rep K ca (fun b => B b ∨ b = D) H0 (upd H6 D (.lst ws)) σ3 e5 o5 ∧ Stp (okA (fun b => B b ∨ b = D) e5 o5) H6 (okA (fun b => B b ∨ b = D) e5 o5) (upd H6 D (.lst ws)) := by
  have sA : Stp (okA (fun b => B b ∨ b = D) e5 o5) H6 (okA (fun b => B b ∨ b = D) e5 o5) (upd H6 D (.lst ws)) := fun b u hb hu => ⟨hb, by rw [upd_ne fun z => hb.1 (.inr z)]; exact hu⟩
  exact ⟨{ sh := fun j x hj => let ⟨v, e6, h6⟩ := R5.sh j x hj; ⟨v, e6, Dv.mono sA _ _ h6⟩
           ol := fun j ys hj => by
             obtain ⟨e6, ws, e7, h7⟩ := R5.ol j ys hj
             exact ⟨e6, ws, by rw [upd_ne fun z => R5.nb j ys hj (.inr z)]; exact e7, DvL.mono sA _ _ h7⟩
           ne := R5.ne
           fr := R5.fr
           nb := R5.nb
           sm := fun b u hb => by
             rw [upd_ne (ne_of_none hb hD0)]
             exact R5.sm b u hb
           bd := fun b hb z => by
             by_cases hbD : b = D
             · rw [hbD, upd_same] at z
               cases z
             · rw [upd_ne hbD] at z
               exact R5.bd b hb z
           ln := R5.ln
           lt := fun j ys hj => let ⟨q, ws, e6, e7, h7⟩ := R5.lt j ys hj; ⟨q, ws, e6, e7, DvL.mono sA _ _ h7⟩ }, sA⟩
theorem lf_lc2 {src src1 : TDI} {vs vs1 ss ss1 : List Nat} {g g1 : TDG} {tt tt1 : TDT} {te : TD} (hss : ∀ j ∈ ss, j ∈ vs) (hss1 : ∀ j ∈ ss1, j ∈ vs1) : ∀ σ H Q, LF K ca H0 B (fLc2 src vs g tt src1 vs1 g1 tt1 te) σ H Q →
    tLc2 (LI K ca H0 B true src) (fun v σ H Q => ∃ B, LG K ca H0 B ss g v σ H Q) (fun σ H Q => ∃ B, LT K ca H0 B tt σ H Q) (fun σ H R => ∃ B, LI K ca H0 B true src1 σ H R)
      (fun v σ H Q => ∃ B, LG K ca H0 B ss1 g1 v σ H Q) (fun σ H Q => ∃ B, LT K ca H0 B tt1 σ H Q) (fun σ H Q => ∃ B, LE K ca H0 B te σ H Q) vs vs1 σ H Q := fun σ H Q ⟨e, o, Q', R, q, imp⟩ =>
  ⟨e, o, _, R, q, fun xs C e1 q1 J H1 o1 R1 s1 hy => fun D hD => by
    have R1' : Rep K ca (fun b => B b ∨ b = D) H0 (upd H1 D (.lst [])) (wipe σ vs) (wipeE e1 vs) o1 := (R1.shut hD).wipe vs
    have s1' : Stp (okN e1 o1) H1 (okN (wipeE e1 vs) o1) (upd H1 D (.lst [])) := (Stp.same (same_new hD)).trans (Stp.weak (okN_wipe vs))
    refine ⟨fun i m H2 => ∃ e2 o2 acc accV, Rep K ca (fun b => B b ∨ b = D) H0 H2 (wipe σ vs) e2 o2 ∧ Stp (okN e1 o1) H1 (okN e2 o2) H2 ∧ H2 D = some (.lst accV) ∧ DvL K ca H2 (okA (fun b => B b ∨ b = D) e2 o2) acc accV ∧
      m = xs.length - i ∧ i ≤ xs.length ∧ lcO C vs vs1 g tt src1 g1 tt1 te Q' (xs.drop i) acc e2, ⟨xs.length, _, o1, [], [], R1', s1', upd_same, rfl, rfl, Nat.zero_le _, q1⟩, fun i m H2 ⟨e2, o2, acc, accV, R2, s2, hD2, hacc, hm, hi, q2⟩ => ?_⟩
    have hB : ∀ b u, H1 b = some u → ¬ B b → ¬ (B b ∨ b = D) := fun b u hb hn z => z.elim hn (ne_of_none hb hD)
    obtain ⟨ys, yg⟩ := hy _ i (wipe σ vs) H2 e2 o2 R2 (s2.ab hB) (lcO_C q2) (fun τ hτ j v hv => by
      have e3 : σ = τ := Option.some.inj hτ
      subst e3
      exact (wipe_some hv).1)
    by_cases hlt : i < xs.length
    · obtain ⟨hgo, hyl⟩ := yg hlt
      refine .inr ⟨hgo, fun H3 => ∃ e3 o3 acc accV, Rep K ca (fun b => B b ∨ b = D) H0 H3 (wipe σ vs) e3 o3 ∧ Stp (okN e1 o1) H1 (okN e3 o3) H3 ∧ H3 D = some (.lst accV) ∧ DvL K ca H3 (okA (fun b => B b ∨ b = D) e3 o3) acc accV ∧
        lcO C vs vs1 g tt src1 g1 tt1 te Q' (xs.drop (i + 1)) acc e3, fun H3 ⟨e3, o3, acc3, accV3, R3, s3, hD3, hacc3, q3⟩ => ⟨m - 1, by omega, e3, o3, acc3, accV3, R3, s3, hD3, hacc3, by omega, hlt, q3⟩, fun v H3 hv => ?_⟩
      obtain ⟨sm, d, hd, hdv⟩ := hyl v H3 hv
      rw [drop_cons hd] at q2
      refine ⟨_, e2, o2, d, _, R2.grow sm, hdv, q2.2, fun e3 q3 σ3 H4 o3 R3 s3 hl3 hk3 => ?_⟩
      have hw : wipe σ3 vs = wipe σ vs := wipe_eq hl3 hk3 hss
      refine ⟨hw, _, e3, o3, _, R3, q3, fun b e4 q4 H5 o4 R4 s4 => ?_⟩
      have st : Stp (okN e2 o2) H2 (okN e4 o4) H5 := ((Stp.same sm).trans s3).trans s4
      have hDn : okN e2 o2 D := fun j ys hj z => R2.nb j ys hj (.inr z)
      cases b with
      | false =>
        exact ⟨wipeE e4 vs, o4, acc, accV, by rw [← hw]; exact R4.wipe vs, (s2.trans st).trans (Stp.weak (okN_wipe vs)), (st D _ hDn hD2).2, DvL.mono (st.a.trans (Stp.weak (okA_wipe vs))) _ _ hacc, q4⟩
      | true =>
        refine ⟨_, e4, o4, _, R4, q4, fun zs C1 e5 q5 J1 H6 o5 R5 s5 hy1 => ?_⟩
        have st5 : Stp (okN e2 o2) H2 (okN e5 o5) H6 := st.trans s5
        refine ⟨fun j n H7 => ∃ e7 o7 acc accV, Rep K ca (fun b => B b ∨ b = D) H0 H7 (wipe σ3 vs1) e7 o7 ∧ Stp (okN e1 o1) H1 (okN e7 o7) H7 ∧ Stp (okA (fun b => B b ∨ b = D) e5 o5) H6 (okA (fun b => B b ∨ b = D) e7 o7) H7 ∧ H7 D = some (.lst accV) ∧ DvL K ca H7 (okA (fun b => B b ∨ b = D) e7 o7) acc accV ∧
          n = zs.length - j ∧ j ≤ zs.length ∧ lcI C1 vs1 g1 tt1 te (fun acc e4 => lcO C vs vs1 g tt src1 g1 tt1 te Q' (xs.drop (i + 1)) acc (wipeE e4 vs)) (zs.drop j) acc e7,
          ⟨zs.length, wipeE e5 vs1, o5, acc, accV, R5.wipe vs1, (s2.trans st5).trans (Stp.weak (okN_wipe vs1)), Stp.weak (okA_wipe vs1), (st5 D _ hDn hD2).2, DvL.mono (st5.a.trans (Stp.weak (okA_wipe vs1))) _ _ hacc, rfl, Nat.zero_le _, q5⟩, fun j n H7 ⟨e7, o7, acc, accV, R7, s7, t7, hD7, hacc, hn, hj, q7⟩ => ?_⟩
        obtain ⟨ys1, yg1⟩ := hy1 _ j (wipe σ3 vs1) H7 e7 o7 R7 t7 (lcI_C q7) (fun τ hτ j v hv => by
          have e3 : σ3 = τ := Option.some.inj hτ
          subst e3
          exact (wipe_some hv).1)
        by_cases hlt1 : j < zs.length
        · obtain ⟨hgo1, hyl1⟩ := yg1 hlt1
          refine .inr ⟨hgo1, fun H8 => ∃ e8 o8 acc accV, Rep K ca (fun b => B b ∨ b = D) H0 H8 (wipe σ3 vs1) e8 o8 ∧ Stp (okN e1 o1) H1 (okN e8 o8) H8 ∧ Stp (okA (fun b => B b ∨ b = D) e5 o5) H6 (okA (fun b => B b ∨ b = D) e8 o8) H8 ∧ H8 D = some (.lst accV) ∧ DvL K ca H8 (okA (fun b => B b ∨ b = D) e8 o8) acc accV ∧
            lcI C1 vs1 g1 tt1 te (fun acc e4 => lcO C vs vs1 g tt src1 g1 tt1 te Q' (xs.drop (i + 1)) acc (wipeE e4 vs)) (zs.drop (j + 1)) acc e8, fun H8 ⟨e8, o8, acc8, accV8, R8, s8, t8, hD8, hacc8, q8⟩ => ⟨n - 1, by omega, e8, o8, acc8, accV8, R8, s8, t8, hD8, hacc8, by omega, hlt1, q8⟩, fun v1 H8 hv1 => ?_⟩
          obtain ⟨sm1, d1, hd1, hdv1⟩ := hyl1 v1 H8 hv1
          rw [drop_cons hd1] at q7
          refine ⟨_, e7, o7, d1, _, R7.grow sm1, hdv1, q7.2, fun e8 q8 σ4 H9 o8 R8 s8 hl8 hk8 => ?_⟩
          have hw1 : wipe σ4 vs1 = wipe σ3 vs1 := wipe_eq hl8 hk8 hss1
          refine ⟨hw1, _, e8, o8, _, R8, q8, fun b1 e9 q9 H10 o9 R9 s9 => ?_⟩
          have st1 : Stp (okN e7 o7) H7 (okN e9 o9) H10 := ((Stp.same sm1).trans s8).trans s9
          have hDn1 : okN e7 o7 D := fun j ys hj z => R7.nb j ys hj (.inr z)
          cases b1 with
          | false =>
            exact ⟨wipeE e9 vs1, o9, acc, accV, by rw [← hw1]; exact R9.wipe vs1, (s7.trans st1).trans (Stp.weak (okN_wipe vs1)), (t7.trans st1.a).trans (Stp.weak (okA_wipe vs1)), (st1 D _ hDn1 hD7).2, DvL.mono (st1.a.trans (Stp.weak (okA_wipe vs1))) _ _ hacc, q9⟩
          | true =>
            refine ⟨_, e9, o9, _, R9, q9, fun dy e10 ⟨hzl, q10⟩ vy H11 o10 R10 s10 hvy => ?_⟩
            have st2 := st1.trans s10
            refine ⟨accV, (st2 D _ hDn1 hD7).2, by rw [← hacc.length]; exact hzl, ?_⟩
            obtain ⟨R11, sA⟩ := grow_rep (ws := accV ++ [vy]) (R1.sm.free hD) R10
            have sN : Stp (okN e1 o1) H1 (okN e10 o10) (upd H11 D (.lst (accV ++ [vy]))) := fun b u hb hu => by
              obtain ⟨a1, a2⟩ := (s7.trans st2) b u hb hu
              exact ⟨a1, by rw [upd_ne (ne_of_none hu hD)]; exact a2⟩
            exact ⟨wipeE e10 vs1, o10, acc ++ [dy], accV ++ [vy], by rw [← hw1]; exact R11.wipe vs1, sN.trans (Stp.weak (okN_wipe vs1)), ((t7.trans st2.a).trans sA).trans (Stp.weak (okA_wipe vs1)), upd_same,
              DvL.append (DvL.mono ((st2.a.trans sA).trans (Stp.weak (okA_wipe vs1))) _ _ hacc) (.cons (Dv.mono (sA.trans (Stp.weak (okA_wipe vs1))) _ _ hvy) .nil), q10⟩
        · have hx1 : zs.drop j = [] := List.drop_of_length_le (by omega)
          rw [hx1] at q7
          refine .inl ⟨ys1 (by omega), wipeE e7 vs, o7, acc, accV, ?_, s7.trans (Stp.weak (okN_wipe vs)), hD7, DvL.mono (Stp.weak (okA_wipe vs)) _ _ hacc, q7.2⟩
          rw [← hw]
          exact R7.unwipe.wipe vs
    · have hx : xs.drop i = [] := List.drop_of_length_le (by omega)
      rw [hx] at q2
      refine .inl ⟨ys (by omega), imp acc e2 q2.2 D accV H2 o2 R2.unwipe (s1.trans s2) hD2 (fun b u hb hu => ne_of_none (s1 b u hb hu).2 hD) (R1.fr0 hD) (R1.nB hD) (fun j ys hj z => R2.nb j ys hj (.inr z)) hacc⟩⟩
end
section
variable {X : Cx} {ca : Str → Addr} {H0 : Hp} {x y z tg iter tg1 iter1 elt : Expr} {pos p : Pos}
theorem df_lc2 {src src1 : TDI} {ss ss1 vs1 : List Nat} {g g1 : TDG} {tt tt1 : TDT} {te : TD} {ifs ifs1 : List Expr} {scope : Scope} {own : List (Str × Nat)} (hc : X.calm = true) (hN : X.N.Nodup) (hi : DI X ca H0 true tg iter src) (ok : BlkOk X.N X.env.scope scope own)
    (hg : ∀ (s : Shared) (H : Hp) (C : Addr) (cl : List (Str × Addr)) (fp : List Addr), DG (X.blk s H scope (compEnvC scope cl C X.env) fp) ca H0 tg ss g)
    (ht : ∀ (s : Shared) (H : Hp) (C : Addr) (cl : List (Str × Addr)) (fp : List Addr), DTs (X.blk s H scope (compEnvC scope cl C X.env) fp) ca H0 ifs tt)
    (hi1 : ∀ (s : Shared) (H : Hp) (C : Addr) (cl : List (Str × Addr)) (fp : List Addr), DI (X.blk s H scope (compEnvC scope cl C X.env) fp) ca H0 true tg1 iter1 src1)
    (hg1 : ∀ (s : Shared) (H : Hp) (C : Addr) (cl : List (Str × Addr)) (fp : List Addr), DG (X.blk s H scope (compEnvC scope cl C X.env) fp) ca H0 tg1 ss1 g1)
    (ht1 : ∀ (s : Shared) (H : Hp) (C : Addr) (cl : List (Str × Addr)) (fp : List Addr), DTs (X.blk s H scope (compEnvC scope cl C X.env) fp) ca H0 ifs1 tt1)
    (he : ∀ (s : Shared) (H : Hp) (C : Addr) (cl : List (Str × Addr)) (fp : List Addr), DE (X.blk s H scope (compEnvC scope cl C X.env) fp) ca H0 elt te)
    (hss : ∀ j ∈ ss, j ∈ own.map (·.2) := by decide) (hss1 : ∀ j ∈ ss1, j ∈ vs1 := by decide) (hv : ∀ i ∈ vs1, i ∈ own.map (·.2) := by decide) (hs : ∀ v, foldedSetIterable iter X.env v = pure v := by intro _; rfl) (hs1 : ∀ env v, foldedSetIterable iter1 env v = pure v := by intro _ _; rfl) :
    DF X ca H0 (.ListComp elt [⟨tg, iter, ifs, 0⟩, ⟨tg1, iter1, ifs1, 0⟩] scope pos) (fLc2 src (own.map (·.2)) g tt src1 vs1 g1 tt1 te) :=
  ⟨fun B => pe_imp (pe_lc2 hc hN (hi.pi B) ok hv (fun s H C cl fp => pg_ex (hg s H C cl fp).pg) (fun s H C cl fp => pts_ex (ht s H C cl fp).pts) (fun s H C cl fp => pi_ex (hi1 s H C cl fp).pi) (fun s H C cl fp => pg_ex (hg1 s H C cl fp).pg) (fun s H C cl fp => pts_ex (ht1 s H C cl fp).pts)
    (fun s H C cl fp => pe_ex (he s H C cl fp).pe) hs hs1) (lf_lc2 hss hss1)⟩
end
end DL
set_option Elab.async false
set_option linter.all false
set_option maxRecDepth 100000
set_option maxHeartbeats 4000000
/-! DX: x, y = a, b with plain local names (no tuple is made) -/
namespace DL
open PySem PySem.Spec L2
theorem Room.u65 {k : Nat} {A : Around} (r : Room k A) : A.units + 65 < cLine := by have := r.un; omega
section
variable {ca : Str → Addr} {H0 : Hp} {K : PySem.W.Frag} {B : Addr → Prop} {σ : L2.St} {tf uf : TDF} {te : TD} {i j : Nat}
theorem lp_own2 : ∀ F σ H, LS K ca H0 B (dOwn2 tf uf i j) F σ H → tPar i j (tCons (LF K ca H0 B tf) (tCons (fun σ H Q => ∃ B', LF K ca H0 B' uf σ H Q) tNil)) F σ H := fun F σ H ⟨e, o, D', R, q, en⟩ => by
  refine ⟨e, o, _, R, q, fun xs e1 q1 p vs H1 o1 R1 s1 hp hs h0 hb hn hl => ⟨fun b => B b ∨ b = p, e1, o1, _, R1, q1, fun ys e2 ⟨hi, hj, hij, q2⟩ p2 ws H2 o2 R2 s2 hp2 hs2 h02 hb2 hn2 hl2 => ⟨_, _, rfl, ?_⟩⟩⟩
  -- the first list still stands
  have hpN : okN e1 o1 p := fun m zs hm => hn m zs hm
  obtain ⟨hpN2, hpl⟩ := s2 p _ hpN hp
  have hpp : p ≠ p2 := hs2 p _ hpN hp
  have hl' : DvL K ca H2 (okA (fun b => (B b ∨ b = p) ∨ b = p2) e2 o2) xs vs := DvL.mono (fun b u hb hu => by
    obtain ⟨a1, a2⟩ := s2 b u hb.2 hu
    exact ⟨⟨fun z => z.elim hb.1 (hs2 b u hb.2 hu), a1⟩, a2⟩) _ _ hl
  have sm : Same H2 H2 := Same.refl H2
  have R3 := (R2.grow sm).own (i := j) (xs := ys) (vs := ws) (sm _ _ hp2) h02 hb2 hn2 (DvL.mono (Stp.same sm) _ _ hl2) (Nat.lt_of_lt_of_le hj R2.ln)
  have hn3 : ∀ (m : Nat) (zs : List D), (e2.set j (.ol ys))[m]? = some (Ent.ol zs) → setO o2 j p2 m ≠ p := fun m zs hm => by
    rcases ol_of_setO hm with ⟨e5, _⟩ | ⟨hm, hjm⟩
    · rw [← e5, setO_self]
      exact Ne.symm hpp
    · rw [setO_ne hjm]
      exact hpN2 m zs hm
  have R4 := R3.own (i := i) (xs := xs) (vs := vs) (sm _ _ hpl) h0 hb hn3 (DvL.mono (fun b u hb hu => ⟨⟨fun z => hb.1 (.inl z), (okA_own (B := fun b => B b ∨ b = p) b ⟨hb.1, hb.2⟩).2⟩, sm _ _ hu⟩) _ _ hl') (by rw [List.length_set]; exact Nat.lt_of_lt_of_le hi R2.ln)
  rw [set_comm2 hij]
  refine en.1 _ q2 _ _ _ R4 fun b u hk hu => ?_
  obtain ⟨a1, a2⟩ := s1 b u hk hu
  obtain ⟨b1, b2⟩ := s2 b u a1 a2
  exact ⟨okN_own (okN_own b1 (hs2 b u a1 a2)) (hs b u hk hu), sm _ _ b2⟩
theorem lp_ownR : ∀ F σ H, LS K ca H0 B (dOwnR te uf i j) F σ H → tPar i j (tCons (LE K ca H0 B te) (tCons (LF K ca H0 B uf) tNil)) F σ H := fun F σ H ⟨e, o, D', R, q, en⟩ => by
  refine ⟨e, o, _, R, q, fun d e1 q1 v H1 o1 R1 s1 hd => ⟨e1, o1, _, R1, q1, fun ys e2 ⟨hi, hj, hij, q2⟩ p2 ws H2 o2 R2 s2 hp2 hs2 h02 hb2 hn2 hl2 => ⟨_, _, rfl, ?_⟩⟩⟩
  have sm : Same H2 H2 := Same.refl H2
  have hd' : Dv K ca H2 (okA (fun b => B b ∨ b = p2) e2 o2) d v := Dv.mono (fun b u hb hu => by
    obtain ⟨a1, a2⟩ := s2 b u hb.2 hu
    exact ⟨⟨fun z => z.elim hb.1 (hs2 b u hb.2 hu), a1⟩, a2⟩) _ _ hd
  have R3 := (R2.grow sm).own (i := j) (xs := ys) (vs := ws) (sm _ _ hp2) h02 hb2 hn2 (DvL.mono (Stp.same sm) _ _ hl2) (Nat.lt_of_lt_of_le hj R2.ln)
  have R4 := R3.put (i := i) (d := d) (v := v) (Dv.mono (fun b u hb hu => ⟨okA_own b ⟨hb.1, hb.2⟩, sm _ _ hu⟩) _ _ hd')
  rw [set_comm2 hij]
  refine en.1 _ q2 _ _ _ R4 fun b u hk hu => ?_
  obtain ⟨a1, a2⟩ := s1 b u hk hu
  obtain ⟨b1, b2⟩ := s2 b u a1 a2
  exact ⟨okN_set _ (okN_own b1 (hs2 b u a1 a2)), sm _ _ b2⟩
theorem lp_ownL : ∀ F σ H, LS K ca H0 B (dOwnL tf te i j) F σ H → tPar i j (tCons (LF K ca H0 B tf) (tCons (fun σ H Q => ∃ B', LE K ca H0 B' te σ H Q) tNil)) F σ H := fun F σ H ⟨e, o, D', R, q, en⟩ => by
  refine ⟨e, o, _, R, q, fun xs e1 q1 p vs H1 o1 R1 s1 hp hs h0 hb hn hl => ⟨fun b => B b ∨ b = p, e1, o1, _, R1, q1, fun d e2 ⟨hi, hj, hij, q2⟩ v H2 o2 R2 s2 hd => ⟨_, _, rfl, ?_⟩⟩⟩
  have hpN : okN e1 o1 p := fun m zs hm => hn m zs hm
  obtain ⟨hpN2, hpl⟩ := s2 p _ hpN hp
  have sm : Same H2 H2 := Same.refl H2
  have R3 := (R2.grow sm).own (i := i) (xs := xs) (vs := vs) (sm _ _ hpl) h0 hb hpN2 (DvL.mono (fun b u hb hu => ⟨(s2.a b u hb hu).1, sm _ _ (s2.a b u hb hu).2⟩) _ _ hl) (Nat.lt_of_lt_of_le hi R2.ln)
  have R4 := R3.put (i := j) (d := d) (v := v) (Dv.mono (fun b u hb hu => ⟨okA_own b ⟨hb.1, hb.2⟩, sm _ _ hu⟩) _ _ hd)
  refine en.1 _ q2 _ _ _ R4 fun b u hk hu => ?_
  obtain ⟨a1, a2⟩ := s1 b u hk hu
  obtain ⟨b1, b2⟩ := s2 b u a1 a2
  exact ⟨okN_set _ (okN_own b1 (hs b u hk hu)), sm _ _ b2⟩

/-- both values shared: the tuple of the reading is never made -/
def dPair (t : TDF) (i j : Nat) : TDS := dAsg (dTup t) (gTupD 2 (gConsD (gN i) (gConsD (gN j) gNilD)))
theorem lp_pair {t : TDF} : ∀ F σ H, LS K ca H0 B (dPair t i j) F σ H → tPar i j (LA K ca H0 B t) F σ H := fun F σ H ⟨e, o, D', R, q, en⟩ =>
  ⟨e, o, _, R, q, fun ds e1 ⟨_, hl, q1⟩ vs H1 o1 R1 s1 hd => by
    match ds, hl, q1, hd with
    | [a, b], _, q1, hd =>
      obtain ⟨v, r, e2, h1, w, r', e3, h2, h3⟩ := hd
      have e4 : r' = [] := h3
      subst e4 e3 e2
      refine ⟨v, w, rfl, en.1 _ q1.2 _ H1 o1 ((R1.put h1).put (Dv.mono (Stp.weak okA_set) _ _ h2)) (s1.trans (Stp.weak fun b z => okN_set _ (okN_set _ z)))⟩⟩
end
section
variable {X : Cx} {ca : Str → Addr} {H0 : Hp} {x y : Expr} {n m : Str} {npos mpos pos p p2 : Pos} {kk kk2 : Nat} {i j : Nat} {tf uf : TDF} {te : TD} {t : TDF}
theorem ds_parP (hc : X.calm = true) (hN : X.N.Nodup) (hi : X.N[i]? = some n) (hj : X.N[j]? = some m) (hij : i ≠ j) (hx : X.env.scope.names.lookup n = some .local) (hy : X.env.scope.names.lookup m = some .local) (ha : DA X ca H0 [x, y] t)
    (hw : swappedStores [.Tuple [.Name n npos, .Name m mpos] kk p] (.Tuple [x, y] kk2 p2) X.env = pure (some [n, m])) (hs : swapsWithSole [.Tuple [.Name n npos, .Name m mpos] kk p] (.Tuple [x, y] kk2 p2) pos.line X.env = pure false) :
    DSt X ca H0 (.Assign [.Tuple [.Name n npos, .Name m mpos] kk p] (.Tuple [x, y] kk2 p2) pos) (dPair t i j) := ⟨fun B => ps_imp (ps_par hc hN hi hj hij hx hy (ha.pa B) hw hs) lp_pair⟩
theorem ds_par2 (hc : X.calm = true) (hN : X.N.Nodup) (hi : X.N[i]? = some n) (hj : X.N[j]? = some m) (hij : i ≠ j) (hx : X.env.scope.names.lookup n = some .local) (hy : X.env.scope.names.lookup m = some .local) (h1 : DF X ca H0 x tf) (h2 : DF X ca H0 y uf)
    (hw : swappedStores [.Tuple [.Name n npos, .Name m mpos] kk p] (.Tuple [x, y] kk2 p2) X.env = pure (some [n, m])) (hs : swapsWithSole [.Tuple [.Name n npos, .Name m mpos] kk p] (.Tuple [x, y] kk2 p2) pos.line X.env = pure false)
    (he1 : starEach (x :: [y]) X.env = (false, eval x X.env) :: starEach [y] X.env) (he2 : starEach [y] X.env = (false, eval y X.env) :: starEach [] X.env) :
    DSt X ca H0 (.Assign [.Tuple [.Name n npos, .Name m mpos] kk p] (.Tuple [x, y] kk2 p2) pos) (dOwn2 tf uf i j) := ⟨fun B => ps_imp (ps_par hc hN hi hj hij hx hy (pa_cons (h1.pe B) (pa_cons (pe_ex h2.pe) pa_nil he2) he1) hw hs) lp_own2⟩
theorem ds_parR (hc : X.calm = true) (hN : X.N.Nodup) (hi : X.N[i]? = some n) (hj : X.N[j]? = some m) (hij : i ≠ j) (hx : X.env.scope.names.lookup n = some .local) (hy : X.env.scope.names.lookup m = some .local) (h1 : DE X ca H0 x te) (h2 : DF X ca H0 y uf)
    (hw : swappedStores [.Tuple [.Name n npos, .Name m mpos] kk p] (.Tuple [x, y] kk2 p2) X.env = pure (some [n, m])) (hs : swapsWithSole [.Tuple [.Name n npos, .Name m mpos] kk p] (.Tuple [x, y] kk2 p2) pos.line X.env = pure false)
    (he1 : starEach (x :: [y]) X.env = (false, eval x X.env) :: starEach [y] X.env) (he2 : starEach [y] X.env = (false, eval y X.env) :: starEach [] X.env) :
    DSt X ca H0 (.Assign [.Tuple [.Name n npos, .Name m mpos] kk p] (.Tuple [x, y] kk2 p2) pos) (dOwnR te uf i j) := ⟨fun B => ps_imp (ps_par hc hN hi hj hij hx hy (pa_cons (h1.pe B) (pa_cons (h2.pe B) pa_nil he2) he1) hw hs) lp_ownR⟩
theorem ds_parL (hc : X.calm = true) (hN : X.N.Nodup) (hi : X.N[i]? = some n) (hj : X.N[j]? = some m) (hij : i ≠ j) (hx : X.env.scope.names.lookup n = some .local) (hy : X.env.scope.names.lookup m = some .local) (h1 : DF X ca H0 x tf) (h2 : DE X ca H0 y te)
    (hw : swappedStores [.Tuple [.Name n npos, .Name m mpos] kk p] (.Tuple [x, y] kk2 p2) X.env = pure (some [n, m])) (hs : swapsWithSole [.Tuple [.Name n npos, .Name m mpos] kk p] (.Tuple [x, y] kk2 p2) pos.line X.env = pure false)
    (he1 : starEach (x :: [y]) X.env = (false, eval x X.env) :: starEach [y] X.env) (he2 : starEach [y] X.env = (false, eval y X.env) :: starEach [] X.env) :
    DSt X ca H0 (.Assign [.Tuple [.Name n npos, .Name m mpos] kk p] (.Tuple [x, y] kk2 p2) pos) (dOwnL tf te i j) := ⟨fun B => ps_imp (ps_par hc hN hi hj hij hx hy (pa_cons (h1.pe B) (pa_cons (pe_ex h2.pe) pa_nil he2) he1) hw hs) lp_ownL⟩
end
end DL
set_option Elab.async false
set_option linter.all false
set_option maxRecDepth 100000
set_option maxHeartbeats 4000000
/-! DW: the draws' source: a list of three ints, seen as an opaque thing -/
namespace DL
open PySem PySem.Spec L2

def srcH (p : Addr) : HO := .ext fun h => SrcO h p
section
variable {P : Program} {w : World} {H : Hp} {h : Heap} {p : Addr}
theorem src_obj {d s c : Int} (hok : HOk P w H h) (hp : H p = some (.lst [.int d, .int s, .int c])) : ObjOk P w (upd H p (srcH p)) h p (srcH p) := by
  obtain ⟨_, its, n, r, e⟩ := (show ObjOk P w H h p (.lst [.int d, .int s, .int c]) from hok p _ hp)
  cases r with
  | cons r1 r =>
    cases r with
    | cons r2 r =>
      cases r with
      | cons r3 r =>
        cases r
        obtain ⟨t, rfl⟩ := r1
        obtain ⟨u, rfl⟩ := r2
        obtain ⟨v, rfl⟩ := r3
        exact ⟨⟨d, s, c, t, u, v, n, e⟩, ⟨_, e⟩, fun h1 h2 ⟨d, s, c, t, u, v, n, e⟩ k => ⟨d, s, c, t, u, v, n, k _ e⟩⟩
theorem src_lst (hok : HOk P w H h) (hp : H p = some (srcH p)) : ∃ d s c : Int, ObjOk P w (upd H p (.lst [.int d, .int s, .int c])) h p (.lst [.int d, .int s, .int c]) := by
  obtain ⟨⟨d, s, c, t, u, v, n, e⟩, _, _⟩ := (show ObjOk P w H h p (srcH p) from hok p _ hp)
  exact ⟨d, s, c, by rw [sizeLine_eq]; show 3 ≤ _; decide, [.int d t, .int s u, .int c v], n, .cons ⟨t, rfl⟩ (.cons ⟨u, rfl⟩ (.cons ⟨v, rfl⟩ .nil)), e⟩
end
section
variable {P : Program} {w : World} {K : PySem.W.Frag} {mg : Str → Option Value} {base : Heap} {A : Around} {outer : List Env} {s : Shared} {H : Hp} {p : Addr} {u : HO} {k : Nat} {f : Addr} {spL : Sp}
theorem env0_at (e0 : Env0 P w K mg base A outer s H) (hp : H p ≠ none) (hok : HOk P w (upd H p u) s.heap) : Env0 P w K mg base A outer s (upd H p u) :=
  ⟨e0.frames, e0.mod, fun b o e => ⟨(e0.bs b o e).1, by rw [upd_ne fun z => hp (by rw [← z]; exact (e0.bs b o e).2)]; exact (e0.bs b o e).2⟩, e0.bsz, e0.funs, fun b hb => by rw [upd_ne fun z => hp (by rw [← z]; exact e0.frf b hb)]; exact e0.frf b hb, hok, e0.bare⟩
/-- a def that is told of the source's list, told of the opaque source -/
theorem fr_src (F : FnR P w K mg base CX0 k f spL) : FnR P w K mg base CX0 k f (fun vs H Q E => ∃ p rest, vs = .ref p :: rest ∧ H p = some (srcH p) ∧
    ∀ d s c : Int, spL vs (upd H p (.lst [.int d, .int s, .int c])) (fun v H' => ∃ d' s' c' : Int, H' p = some (.lst [.int d', .int s', .int c']) ∧ Q v (upd H' p (srcH p))) E) := by
  rintro A outer s H us vs Q E hr e0 r ⟨p, rest, ev, hp, h⟩
  obtain ⟨d, s0, c, new⟩ := src_lst e0.hok hp
  have mu : Mut (H p) := by rw [hp]; exact trivial
  have there : ∃ o, s.heap.get? p = some o := by
    obtain ⟨_, x, _⟩ := (show ObjOk P w H s.heap p (srcH p) from e0.hok p _ hp)
    exact x
  have hok1 := e0.hok.write mu (.inl rfl) (fun b u _ q => q) there new
  have e1 := env0_at e0 (by rw [hp]; exact fun z => nomatch z) hok1
  have un1 : Un (frs outer) [] H (upd H p (.lst [.int d, .int s0, .int c])) s.heap s.heap := Un.write mu (.inl rfl) (fun b u _ q => q) there
  refine codeAny_mono (F A outer s _ us vs _ E hr e1 r (h d s0 c)) fun r s' hq => ?_
  cases r with
  | error e => exact hq
  | ok fl =>
    cases fl with
    | ret u =>
      obtain ⟨v, H', q1, q2, q3, q4, q5, d', s', c', q6, q7⟩ := hq
      have mu2 : Mut (H' p) := by rw [q6]; exact trivial
      obtain ⟨o, ho⟩ := there
      have new2 := src_obj q4 q6
      exact ⟨v, _, q1, q2, (un1.trans q3).trans (Un.write mu2 (.inl rfl) (fun b u _ q => q) new2.2.1), q4.write mu2 (.inl rfl) (fun b u _ q => q) new2.2.1 new2, q5, q7⟩
    | next => exact hq
    | brk => exact hq
    | cont => exact hq
end
end DL
set_option Elab.async false
set_option linter.all false
set_option maxRecDepth 100000
set_option maxHeartbeats 4000000
/-! DI: calls that are lent lists of the caller's own -/
namespace DL
open PySem PySem.Spec L2
/-- an argument: shared data, or a list that is lent (m) -/
def DvM (K : PySem.W.Frag) (ca : Str → Addr) (H : Hp) (k : Addr → Prop) : List Bool → List D → List V → Prop
  | _, [], vs => vs = []
  | [], d :: ds, vs => ∃ v r, vs = v :: r ∧ Dv K ca H k d v ∧ DvM K ca H k [] ds r
  | false :: ms, d :: ds, vs => ∃ v r, vs = v :: r ∧ Dv K ca H k d v ∧ DvM K ca H k ms ds r
  | true :: ms, d :: ds, vs => ∃ v r, vs = v :: r ∧ (∃ xs, d = D.lst xs ∧ DvW K ca H k d v) ∧ DvM K ca H k ms ds r
def LSpM (ms : List Bool) (K : PySem.W.Frag) (ca : Str → Addr) (sp : DSp) : Sp := fun vs H Q _ => ∃ (B : Addr → Prop) (ds : List D) (Q' : D → Prop), (∀ b, B b → H b ≠ none) ∧ DvM K ca H (fun b => ¬ B b) ms ds vs ∧ sp ds Q' DX0 ∧
  ∀ d, Q' d → ∀ v H', Same H H' → Dv K ca H' (fun b => ¬ B b) d v → Q v H'
def CalM (P : Program) (w : World) (K : PySem.W.Frag) (mg : Str → Option Value) (base : Heap) (ca : Str → Addr) (ms : List Bool) (k : Nat) (f : Addr) (sp : DSp) : Prop :=
  PySem.W.keepIn K (.ref f) = true ∧ FnR P w K mg base CX0 k f (LSpM ms K ca sp)
def DfM (P : Program) (w : World) (K : PySem.W.Frag) (mg : Str → Option Value) (base : Heap) (ca : Str → Addr) (ms : List Bool) (k : Nat) (name : Str) (sp : DSp) : Prop :=
  ∃ f, mg name = some (.ref f) ∧ CalM P w K mg base ca ms k f sp
/-- what is not lent is a value -/
def maskOk : List Bool → List Opd → Prop
  | _, [] => True
  | [], .val _ :: as => maskOk [] as
  | false :: ms, .val _ :: as => maskOk ms as
  | true :: ms, _ :: as => maskOk ms as
  | _, _ => False
def dAppM (ms : List Bool) (sp : DSp) (t : TDA) : TD := fun e Q => t e fun as e' => ∃ ds, lookL e' as = some ds ∧ maskOk ms as ∧ sp ds (fun d => Q d e') DX0
section
variable {K : PySem.W.Frag} {ca : Str → Addr} {B : Addr → Prop} {H0 H : Hp} {σ : L2.St} {e : DEnv} {o : Nat → Addr}
theorem repLookM (R : Rep K ca B H0 H σ e o) : ∀ {ms : List Bool} {as : List Opd} {ds : List D} {vs : List V}, OpVL K ca H (okA B e o) σ as vs → lookL e as = some ds → maskOk ms as → (∀ (j : Nat) (h : ms[j]? = some true) (d : D), ds[j]? = some d → ∃ xs, d = D.lst xs) → DvM K ca H (okA B e o) ms ds vs
  | ms, [], ds, vs, h, hl, hm, hx => by
    have e1 : ds = [] := (Option.some.inj hl).symm
    subst e1
    cases ms with
    | nil => exact h
    | cons m ms => cases m <;> exact h
  | ms, a :: as, ds, vs, h, hl, hm, hx => by
    obtain ⟨v, r, e1, h1, h2⟩ := h
    have hl' : (match look e a, lookL e as with
      | some d, some ds => some (d :: ds)
      | _, _ => none) = some ds := hl
    cases q1 : look e a with
    | none => rw [q1] at hl'; cases hl'
    | some d =>
      cases q2 : lookL e as with
      | none => rw [q1, q2] at hl'; cases hl'
      | some es =>
        rw [q1, q2] at hl'
        have e2 : d :: es = ds := Option.some.inj hl'
        subst e2
        have val : ∀ x, a = .val x → Dv K ca H (okA B e o) d v := fun x hx => by
          subst hx
          have e3 : x = d := Option.some.inj q1
          subst e3
          exact h1
        cases ms with
        | nil =>
          cases a with
          | val x => exact ⟨v, r, e1, val x rfl, repLookM R h2 q2 hm fun j h => by simp at h⟩
          | slot i => exact hm.elim
        | cons m ms =>
          have rest := repLookM R (ms := ms) (ds := es) h2 q2
          cases m with
          | false =>
            cases a with
            | val x => exact ⟨v, r, e1, val x rfl, rest hm fun j h d hd => hx (j + 1) (by simpa using h) d (by simpa using hd)⟩
            | slot i => exact hm.elim
          | true => exact ⟨v, r, e1, ⟨(hx 0 rfl d rfl).choose, (hx 0 rfl d rfl).choose_spec, R.look h1 q1⟩, rest (by cases a <;> exact hm) fun j h d hd => hx (j + 1) (by simpa using h) d (by simpa using hd)⟩
theorem DvM.weak {k k' : Addr → Prop} (w : ∀ b, k b → k' b) : ∀ {ms : List Bool} {ds : List D} {vs : List V}, DvM K ca H k ms ds vs → DvM K ca H k' ms ds vs
  | ms, [], vs, h => by cases ms with
    | nil => exact h
    | cons m ms => cases m <;> exact h
  | [], d :: ds, vs, ⟨v, r, e, h, h2⟩ => ⟨v, r, e, Dv.mono (Stp.weak w) _ _ h, DvM.weak w h2⟩
  | false :: ms, d :: ds, vs, ⟨v, r, e, h, h2⟩ => ⟨v, r, e, Dv.mono (Stp.weak w) _ _ h, DvM.weak w h2⟩
  | true :: ms, d :: ds, vs, ⟨v, r, e, ⟨xs, ed, h⟩, h2⟩ => ⟨v, r, e, ⟨xs, ed, h.elim (fun h => .inl (Dv.mono (Stp.weak w) _ _ h)) fun ⟨ys, p, vs, a, b, c, d⟩ => .inr ⟨ys, p, vs, a, b, c, DvL.mono (Stp.weak w) _ _ d⟩⟩, DvM.weak w h2⟩
theorem le_appM {ms : List Bool} {sp : DSp} {t : TDA} (E : XK) (hx : ∀ ds Q, sp ds Q DX0 → ∀ (j : Nat) (h : ms[j]? = some true) (d : D), ds[j]? = some d → ∃ xs, d = D.lst xs) : ∀ σ H Q, LE K ca H0 B (dAppM ms sp t) σ H Q → LAO K ca H0 B t σ H fun vs H1 => LSpM ms K ca sp vs H1 Q E := fun σ H Q ⟨e, o, Q', R, q, imp⟩ =>
  ⟨e, o, _, R, q, fun as e1 ⟨ds, hl, hm, q1⟩ vs H1 o1 R1 s1 h1 => ⟨fun b => ¬ okA B e1 o1 b, ds, fun d => Q' d e1, not_okA R1, DvM.weak (fun b z => not_not_intro z) (repLookM R1 h1 hl hm (hx _ _ q1)), q1, fun d qd v H2 s2 hv =>
    imp d e1 qd v H2 o1 (R1.grow s2) (s1.trans (Stp.same s2)) (Dv.mono (Stp.weak fun b z => Classical.not_not.mp z) _ _ hv)⟩⟩
end
section
variable {X : Cx} {ca : Str → Addr} {H0 : Hp} {x : Expr} {es : List Expr} {p pos : Pos} {sp : DSp} {t : TDA} {k : Nat} {n : Str} {ms : List Bool}
theorem de_appM (d : DfM X.prog X.w X.K X.mg X.base ca ms k n sp) (hx : ∀ ds Q, sp ds Q DX0 → ∀ (j : Nat) (h : ms[j]? = some true) (d : D), ds[j]? = some d → ∃ xs, d = D.lst xs) (hr : Room k X.A) (hg : Gl X n) (ha : DAO X ca H0 (x :: es) t) (hdb : (n == ("__debug__" : Str)) = false := by decide)
    (he : starEach (x :: es) X.env = (false, eval x X.env) :: starEach es X.env := by rfl) (hpl : (backTo pos (starEach es X.env)).any (·.1) = false := by rfl) : DE X ca H0 (.Call (.Name n p) (x :: es) [] pos) (dAppM ms sp t) := by
  obtain ⟨f, hm, kp, F⟩ := d
  exact ⟨fun B => pe_imp (pe_cG (fun pins s σ H xs us Q I rv h => wpAny_call (run_fnR (E := E0) F hr pass0 I rv h)) kp hg hm (ha.pa B) hdb he hpl) (le_appM E0 hx)⟩
end
/-! ### a def by its body -/
def ent1 : Bool → D → Ent
  | true, .lst xs => .ln xs
  | _, d => .sh d
def entM : List Bool → List D → List Ent
  | _, [] => []
  | ms, d :: ds => ent1 (ms.headD false) d :: entM ms.tail ds
theorem ent1_f (d : D) : ent1 false d = .sh d := by cases d <;> rfl
def startM (n : Nat) (ms : List Bool) (ds : List D) : DEnv := entM ms ds ++ List.replicate (n - ds.length) .un
def DoesM (n : Nat) (ms : List Bool) (T : TDS) (sp : DSp) : Prop := ∀ ds Q, sp ds Q DX0 → T { nx := fun _ => Q .non, rt := Q } (startM n ms ds)
section
variable {K : PySem.W.Frag} {ca : Str → Addr} {B : Addr → Prop} {H : Hp} {N : List Str} {ds : List D} {vs : List V} {o : Nat → Addr} {ms : List Bool}
theorem entM_len : ∀ (ms : List Bool) (ds : List D), (entM ms ds).length = ds.length
  | ms, [] => rfl
  | ms, d :: ds => congrArg (· + 1) (entM_len ms.tail ds)
theorem DvM.len {k : Addr → Prop} : ∀ {ms : List Bool} {ds : List D} {vs : List V}, DvM K ca H k ms ds vs → ds.length = vs.length
  | ms, [], vs, h => by
    have e : vs = [] := by cases ms with
      | nil => exact h
      | cons m ms => cases m <;> exact h
    rw [e] <;> rfl
  | [], d :: ds, vs, ⟨v, r, e, _, h2⟩ => by rw [e, List.length_cons, List.length_cons, h2.len]
  | false :: ms, d :: ds, vs, ⟨v, r, e, _, h2⟩ => by rw [e, List.length_cons, List.length_cons, h2.len]
  | true :: ms, d :: ds, vs, ⟨v, r, e, _, h2⟩ => by rw [e, List.length_cons, List.length_cons, h2.len]
theorem entM_get {k : Addr → Prop} : ∀ {ms : List Bool} {ds : List D} {vs : List V} {i : Nat} {x : Ent}, DvM K ca H k ms ds vs → (entM ms ds)[i]? = some x → ∃ v, vs[i]? = some v ∧ ((∃ d, x = .sh d ∧ Dv K ca H k d v) ∨ ∃ xs q ws, x = .ln xs ∧ v = .ref q ∧ H q = some (.lst ws) ∧ DvL K ca H k xs ws)
  | ms, [], vs, i, x, _, h => by
    have h : ([] : List Ent)[i]? = some x := h
    simp at h
  | [], d :: ds, vs, 0, x, ⟨v, r, e, h1, h2⟩, h => ⟨v, by rw [e] <;> rfl, .inl ⟨d, by rw [← ent1_f d]; exact (Option.some.inj h).symm, h1⟩⟩
  | false :: ms, d :: ds, vs, 0, x, ⟨v, r, e, h1, h2⟩, h => ⟨v, by rw [e] <;> rfl, .inl ⟨d, by rw [← ent1_f d]; exact (Option.some.inj h).symm, h1⟩⟩
  | true :: ms, d :: ds, vs, 0, x, ⟨v, r, e, ⟨xs, ed, h1⟩, h2⟩, h => by
    subst ed
    obtain ⟨p, ws, e2, e3, h3⟩ := h1.lstH
    exact ⟨v, by rw [e] <;> rfl, .inr ⟨xs, p, ws, (Option.some.inj h).symm, e2, e3, h3⟩⟩
  | [], d :: ds, vs, i + 1, x, ⟨v, r, e, h1, h2⟩, h => by
    obtain ⟨w, a, b⟩ := entM_get (i := i) h2 h
    exact ⟨w, by rw [e]; exact a, b⟩
  | false :: ms, d :: ds, vs, i + 1, x, ⟨v, r, e, h1, h2⟩, h => by
    obtain ⟨w, a, b⟩ := entM_get (i := i) h2 h
    exact ⟨w, by rw [e]; exact a, b⟩
  | true :: ms, d :: ds, vs, i + 1, x, ⟨v, r, e, ⟨xs, ed, h1⟩, h2⟩, h => by
    obtain ⟨w, a, b⟩ := entM_get (i := i) h2 h
    exact ⟨w, by rw [e]; exact a, b⟩
theorem startM_get {k : Addr → Prop} {n i : Nat} {x : Ent} (hd : DvM K ca H k ms ds vs) (h : (startM n ms ds)[i]? = some x) (hx : x ≠ .un) : ∃ v, vs[i]? = some v ∧ ((∃ d, x = .sh d ∧ Dv K ca H k d v) ∨ ∃ xs q ws, x = .ln xs ∧ v = .ref q ∧ H q = some (.lst ws) ∧ DvL K ca H k xs ws) := by
  unfold startM at h
  by_cases hi : i < (entM ms ds).length
  · rw [List.getElem?_append_left hi] at h
    exact entM_get hd h
  · rw [List.getElem?_append_right (by omega), List.getElem?_replicate] at h
    split at h
    · exact absurd (Option.some.inj h).symm hx
    · cases h
theorem rep_startM (hB : ∀ b, B b → H b ≠ none) (hd : DvM K ca H (fun b => ¬ B b) ms ds vs) (hn : ds.length ≤ N.length) : Rep K ca B H H (L2.start N vs) (startM N.length ms ds) o := by
  have no : ∀ (i : Nat) (xs : List D), (startM N.length ms ds)[i]? ≠ some (Ent.ol xs) := fun i xs hi => by
    obtain ⟨v, _, ⟨d, e, _⟩ | ⟨ys, q, ws, e, _⟩⟩ := startM_get hd hi fun q => nomatch q
    · cases e
    · cases e
  have ok : ∀ b, ¬ B b → okA B (startM N.length ms ds) o b := fun b hb => ⟨hb, fun j xs hj => absurd hj (no j xs)⟩
  refine ⟨fun i d hi => ?_, fun i xs hi => absurd hi (no i xs), fun i j xs ys hi => absurd hi (no i xs), fun i xs hi => absurd hi (no i xs), fun i xs hi => absurd hi (no i xs), Same.refl _, hB, ?_, fun i xs hi => ?_⟩
  · obtain ⟨v, e1, ⟨d', e, h⟩ | ⟨ys, q, ws, e, _⟩⟩ := startM_get hd hi fun q => nomatch q
    · injection e with e
      subst e
      exact ⟨v, start_get e1, Dv.mono (Stp.weak ok) _ _ h⟩
    · cases e
  · have h1 := hd.len
    unfold startM L2.start
    rw [List.length_append, entM_len]
    simp
    omega
  · obtain ⟨v, e1, ⟨d', e, h⟩ | ⟨ys, q, ws, e, e2, e3, h⟩⟩ := startM_get hd hi fun q => nomatch q
    · cases e
    · injection e with e
      subst e
      exact ⟨q, ws, by rw [start_get e1, e2], e3, DvL.mono (Stp.weak ok) _ _ h⟩
end
section
variable {P : Program} {w : World} {K : PySem.W.Frag} {mg : Str → Option Value} {base : Heap} {ca : Str → Addr} {k : Nat} {f : Addr} {fd : FuncData} {name qual : Str} {params : Arguments} {body : List Stmt} {scope : Scope} {N ps : List Str} {sp : DSp} {T : TDS} {ms : List Bool}
theorem fr_ofM (F : FunD K name qual params body scope [] [] f fd) (S : FnScope N ps scope) (hb : Binds K fd ps []) (hl : ∀ ds Q, sp ds Q DX0 → ds.length = ps.length) (hn : ps.length ≤ N.length)
    (hD : ∀ (cdv : Value) (A : Around) (outer : List Env) (s : Shared) (H : Hp) (E : XK), Room k (A.deeper (PyProof.Rows.envOfC qual scope s.heap.objs.size f cdv)) → DSs (cxOf CX0 P w K mg base N qual scope f cdv A outer s H E) ca H body T)
    (hT : DoesM N.length ms T sp) : FnR P w K mg base CX0 (k + 1) f (LSpM ms K ca sp) := by
  have G : FnOk P w K mg base CX0 (k + 1) f fd ps (LSpM ms K ca sp) := F.ok S (fun vs H Q E ⟨B, ds, Q', hB, hd, hs, imp⟩ => by rw [← hd.len]; exact hl ds Q' hs) fun cdv A outer s H vs Q E hr ⟨B, ds, Q', hB, hd, hs, imp⟩ => by
    refine ⟨_, (hD cdv A outer s H E hr).ps B, startM N.length ms ds, fun _ => 0, { nx := fun _ => Q' .non, rt := Q' }, rep_startM hB hd (by rw [hl ds Q' hs]; exact hn), hT ds Q' hs, fun e' q σ' H' o' R st => imp .non q .non H' R.sm rfl, fun d q v H' sm hv => imp d q v H' sm hv, ?_, ?_⟩
    · intro e' q
      exact q.elim
    · intro e' q
      exact q.elim
  simpa using G.raw hb .nil
theorem dfm_of (hm : mg name = some (.ref f)) (F : FunD K name qual params body scope [] [] f fd) (G : FnR P w K mg base CX0 k f (LSpM ms K ca sp)) : DfM P w K mg base ca ms k name sp := ⟨f, hm, F.kp, G⟩
end
end DL
set_option Elab.async false
set_option linter.all false
set_option maxRecDepth 100000
set_option maxHeartbeats 4000000
/-! DU: texts of own objects: str(x), repr(x), f".." -/
namespace DL
open PySem PySem.Spec L2
section
variable {X : Cx} {CX : CXT} {n : Nat} {C g : Addr} {sp : Sp} {E : XK}
/-- x an instance of the class at C whose def at g hands back a text -/
def rTxt (C : Addr) (sp : Sp) (E : XK) : V → Hp → VK → Prop := fun x H Q => ∃ a dx fs, x = .ref a ∧ H a = some (.ins C dx fs) ∧ sp [x] H (fun v H' => ∃ y, v = .str y ∧ Q (.str y) H') E
theorem call_strO (hs : PySem.W.findIn X.K (.ref C) "__str__" = some (some (.ref g))) (hf : PySem.W.isFn X.K (.ref g) = true) (F : FnR X.prog X.w X.K X.mg X.base CX n g sp) (hr : Room (n + 2) X.A) (hx : Passes CX X E) :
    CallR X (.type "str") (fun xs H Q => ∃ x, xs = [x] ∧ rTxt C sp E x H Q) := by
  intro pins s σ H xs us Q I rv ⟨x, ex, a, dx, fs, e1, ha, q⟩
  subst ex e1
  cases rv with
  | cons rx rv =>
    cases rv
    rename_i u
    cases (show u = Value.ref a from rx)
    obtain ⟨ox, od, J⟩ := ins_at I ha
    have r1 : Room (n + 1) X.A.in1 := Room.in1 hr
    have r2 : Room n X.A.in1.in1 := Room.in1 r1
    refine PySem.W.kso_call (by have := r2.un; omega) I.kIn J hs hf ?_
    refine wpAny_mono (wpAny_call (SlX.run_at (us := [.ref a]) (ws := [.ref a]) F r2 I.env0.in1.in1 hx I (.cons rfl .nil) q)) (fun w s' z => ?_) fun _ _ x => x
    obtain ⟨z', H', I', rz, y, ey, qz⟩ := z
    subst ey
    obtain ⟨t, rfl⟩ := rz
    exact ⟨.str y, H', I', ⟨t, rfl⟩, qz⟩
theorem call_reprO (hs : PySem.W.findIn X.K (.ref C) "__repr__" = some (some (.ref g))) (hf : PySem.W.isFn X.K (.ref g) = true) (F : FnR X.prog X.w X.K X.mg X.base CX n g sp) (hr : Room (n + 2) X.A) (hx : Passes CX X E) :
    CallR X (.builtin "repr") (fun xs H Q => ∃ x, xs = [x] ∧ rTxt C sp E x H Q) := by
  intro pins s σ H xs us Q I rv ⟨x, ex, a, dx, fs, e1, ha, q⟩
  subst ex e1
  cases rv with
  | cons rx rv =>
    cases rv
    rename_i u
    cases (show u = Value.ref a from rx)
    obtain ⟨ox, od, J⟩ := ins_at I ha
    obtain ⟨m, hF⟩ := I.fr
    have r1 : Room (n + 1) X.A.in1 := Room.in1 hr
    refine PySem.W.repr_K (by have := r1.un; omega) hF I.ok.mod.kin J hs hf ?_
    refine wpAny_mono (wpAny_call (SlX.run_at (us := [.ref a]) (ws := [.ref a]) F (r1.mono (by omega)) I.env0.in1 hx I (.cons rfl .nil) q)) (fun w s' z => ?_) fun _ _ x => x
    obtain ⟨z', H', I', rz, y, ey, qz⟩ := z
    subst ey
    obtain ⟨t, rfl⟩ := rz
    exact ⟨.str y, H', I', ⟨t, rfl⟩, qz⟩
/-- f"{x}", x such an instance -/
def tFmtO (C : Addr) (sp : Sp) (E : XK) (te : TE) : TE := fun σ H Q => te σ H fun x H1 => rTxt C sp E x H1 Q
theorem pe_fmtO {e : Expr} {te : TE} {pos : Pos} (hfm : PySem.W.findIn X.K (.ref C) "__format__" = some (some (.builtin "object.__format__"))) (hm : PySem.W.mroIn X.K C (.type "object") = some true) (hs : PySem.W.findIn X.K (.ref C) "__str__" = some (some (.ref g))) (hf : PySem.W.isFn X.K (.ref g) = true)
    (F : FnR X.prog X.w X.K X.mg X.base CX n g sp) (hr : Room (n + 2) X.A) (hx : Passes CX X E) (he : PE X e te) : PE X (.FormattedValue e (-1) none pos) (tFmtO C sp E te) := by
  refine ⟨fun pins s σ H Q I h => ?_⟩
  refine wpAny_FormattedValue_plain (thn (he.run pins s σ H _ I h) fun v s1 hv => ?_)
  obtain ⟨x, H1, I1, r1, a, dx, fs, e1, ha, q⟩ := hv
  subst e1
  cases (show v = Value.ref a from r1)
  obtain ⟨ox, od, J⟩ := ins_at I1 ha
  have r2 : Room (n + 1) X.A.in1 := Room.in1 hr
  have I2 := I1.tok (s1.toks + 1)
  refine PySem.W.kfo_fieldS (by have := r2.un; omega) I1.kIn J hfm hm hs hf ?_
  refine wpAny_mono (wpAny_call (SlX.run_at (us := [.ref a]) (ws := [.ref a]) F (r2.mono (by omega)) I2.env0.in1 hx I2 (.cons rfl .nil) q)) (fun w s' z => ?_) fun _ _ x => x
  obtain ⟨z', H', I', rz, y, ey, qz⟩ := z
  subst ey
  obtain ⟨t, rfl⟩ := rz
  exact ⟨.str y, H', I', ⟨t, rfl⟩, qz⟩
end
/-! ### on data -/
/-- C.m, a def of the class that hands back a text of the instance -/
def Tx (P : Program) (w : World) (K : PySem.W.Frag) (mg : Str → Option Value) (base : Heap) (ca : Str → Addr) (k : Nat) (c m : Str) (sp : DSp) : Prop :=
  ∃ g, PySem.W.findIn K (.ref (ca c)) m = some (some (.ref g)) ∧ PySem.W.isFn K (.ref g) = true ∧ FnR P w K mg base CX0 k g (LSp K ca sp)
/-- .. and how it is formatted -/
structure Fm (K : PySem.W.Frag) (C : Addr) : Prop where
  fm : PySem.W.findIn K (.ref C) "__format__" = some (some (.builtin "object.__format__"))
  ob : PySem.W.mroIn K C (.type "object") = some true
def dTxtO (c : Str) (sp : DSp) (ta : TDO) : TD := fun e Q => ta e fun a e1 => ∃ ns ds, look e1 a = some (.obj c ns ds) ∧ sp [.obj c ns ds] (fun d => ∃ y, d = .str y ∧ Q (.str y) e1) DX0
section
variable {X : Cx} {ca : Str → Addr} {H0 : Hp} {x y : Expr} {es : List Expr} {n c : Str} {p pos : Pos} {sp : DSp} {ta tb : TDO} {te : TD} {k : Nat}
theorem le_txtO {K : PySem.W.Frag} {B : Addr → Prop} (E : XK) : ∀ σ H Q, LE K ca H0 B (dTxtO c sp ta) σ H Q → LO K ca H0 B ta σ H fun v H1 => rTxt (ca c) (LSp K ca sp) E v H1 Q := fun σ H Q ⟨e, o, Q', R, q, imp⟩ =>
  ⟨e, o, _, R, q, fun a e1 ⟨ns, ds, hl, q1⟩ v H1 o1 R1 s1 h1 => by
    have g1 := R1.look h1 hl
    obtain ⟨pp, dx, vs, e2, hp, hn, hd⟩ := g1.obj
    have g2 := g1.dv_obj
    refine ⟨pp, dx, _, e2, hp, fun b => ¬ okA B e1 o1 b, [.obj c ns ds], fun d => ∃ y, d = .str y ∧ Q' (.str y) e1, not_okA R1, DvL.mono (Stp.weak fun b z => not_not_intro z) _ _ (.cons g2 .nil), q1, fun d ⟨y, ed, qd⟩ v2 H2 s2 hv => ?_⟩
    subst ed
    exact ⟨y, hv, imp (.str y) e1 qd _ H2 o1 (R1.grow s2) (s1.trans (Stp.same s2)) rfl⟩⟩
theorem LO.mono {K : PySem.W.Frag} {B : Addr → Prop} {σ : L2.St} {H : Hp} {Q Q2 : VK} (h : LO K ca H0 B ta σ H Q) (w : ∀ v H, Q v H → Q2 v H) : LO K ca H0 B ta σ H Q2 := by
  obtain ⟨e, o, Q', R, q, imp⟩ := h
  exact ⟨e, o, Q', R, q, fun a e' q' v H' o' R' s' hv => w _ _ (imp a e' q' v H' o' R' s' hv)⟩
theorem de_strO (h : Tx X.prog X.w X.K X.mg X.base ca k c "__str__" sp) (hr : Room (k + 2) X.A) (hg : Gl X n) (hm : X.mg n = none) (hv : bootBuiltins n = some (.type "str")) (ha : DO X ca H0 x ta) (hn : n ≠ "__name__" := by decide) (hdb : (n == ("__debug__" : Str)) = false := by decide)
    (he : starEach [x] X.env = (false, eval x X.env) :: starEach [] X.env := by rfl) (hpl : (backTo pos (starEach [] X.env)).any (·.1) = false := by rfl) : DE X ca H0 (.Call (.Name n p) [x] [] pos) (dTxtO c sp ta) := by
  obtain ⟨g, h1, h2, F⟩ := h
  exact ⟨fun B => pe_imp (pe_callTy (call_strO (E := E0) h1 h2 F hr pass0) hg hm hv (pa_cons (ha.pe B) pa_nil he) hn hdb he hpl) fun σ H Q q => (le_txtO E0 σ H Q q).mono fun v H hv => ⟨v, rfl, hv⟩⟩
theorem de_reprO (h : Tx X.prog X.w X.K X.mg X.base ca k c "__repr__" sp) (hr : Room (k + 2) X.A) (hg : Gl X n) (hm : X.mg n = none) (hv : bootBuiltins n = some (.builtin "repr")) (ha : DO X ca H0 x ta) (hn : n ≠ "__name__" := by decide) (hdb : (n == ("__debug__" : Str)) = false := by decide)
    (he : starEach [x] X.env = (false, eval x X.env) :: starEach [] X.env := by rfl) (hpl : (backTo pos (starEach [] X.env)).any (·.1) = false := by rfl) : DE X ca H0 (.Call (.Name n p) [x] [] pos) (dTxtO c sp ta) := by
  obtain ⟨g, h1, h2, F⟩ := h
  exact ⟨fun B => pe_imp (pe_callB (call_reprO (E := E0) h1 h2 F hr pass0) hg hm hv (pa_cons (ha.pe B) pa_nil he) hn hdb he hpl) fun σ H Q q => (le_txtO E0 σ H Q q).mono fun v H hv => ⟨v, rfl, hv⟩⟩
theorem de_fmtO (h : Tx X.prog X.w X.K X.mg X.base ca k c "__str__" sp) (f : Fm X.K (ca c)) (hr : Room (k + 2) X.A) (ha : DO X ca H0 x ta) : DE X ca H0 (.FormattedValue x (-1) none pos) (dTxtO c sp ta) := by
  obtain ⟨g, h1, h2, F⟩ := h
  exact ⟨fun B => pe_imp (pe_fmtO (E := E0) f.fm f.ob h1 h2 F hr pass0 (ha.pe B)) fun σ H Q q => le_txtO E0 σ H Q q⟩
/-! ### f".." of texts and ints -/
def fFmt : D → Option D
  | .str y => if y.length ≤ sizeLine then some (.str y) else none
  | .int i => if i.natAbs.log2 < 1920 then some (.str (toString i)) else none
  | _ => none
theorem de_fmt (ha : DO X ca H0 x ta) : DE X ca H0 (.FormattedValue x (-1) none pos) (dUn fFmt ta) :=
  ⟨fun B => pe_imp (pe_fmt (ha.pe B)) fun σ H Q ⟨e, o, Q', R, q, imp⟩ => ⟨e, o, _, R, q, fun a e1 ⟨d, z, hl, hf, q1⟩ v H1 o1 R1 s1 h1 => by
    have g1 := R1.look h1 hl
    match d, hf with
    | .str y, hf =>
      have hf' : (if y.length ≤ sizeLine then some (D.str y) else none) = some z := hf
      split at hf'
      · have e2 : D.str y = z := Option.some.inj hf'
        subst e2
        exact .inl ⟨y, g1.str, by assumption, imp _ e1 q1 _ H1 o1 R1 s1 rfl⟩
      · cases hf'
    | .int i, hf =>
      have hf' : (if i.natAbs.log2 < 1920 then some (D.str (toString i)) else none) = some z := hf
      split at hf'
      · have e2 : D.str (toString i) = z := Option.some.inj hf'
        subst e2
        exact .inr ⟨i, g1.int, by assumption, imp _ e1 q1 _ H1 o1 R1 s1 rfl⟩
      · cases hf'⟩⟩
/-- the parts, one behind the other -/
def dJs : List TD → Str → TD
  | [], acc => fun e Q => Q (.str acc) e
  | t :: ts, acc => fun e Q => t e fun d e1 => ∃ y, d = .str y ∧ (acc ++ y).length ≤ sizeLine ∧ dJs ts (acc ++ y) e1 Q
inductive DJ (X : Cx) (ca : Str → Addr) (H0 : Hp) : List Expr → List TD → Prop where
  | nil : DJ X ca H0 [] []
  | cons {x : Expr} {t : TD} {xs : List Expr} {ts : List TD} (h : DE X ca H0 x t) (r : DJ X ca H0 xs ts) : DJ X ca H0 (x :: xs) (t :: ts)
theorem DJ.pj {B : Addr → Prop} {xs : List Expr} {ts : List TD} (h : DJ X ca H0 xs ts) : PJ X xs (ts.map (LE X.K ca H0 B)) := by
  induction h with
  | nil => exact .nil
  | cons h _ ih => exact .cons (h.pe B) ih
theorem lj_run {K : PySem.W.Frag} {B : Addr → Prop} {σ : L2.St} : ∀ {ts : List TD} {acc : Str} {H : Hp} {Q : VK}, LE K ca H0 B (dJs ts acc) σ H Q → tJs (ts.map (LE K ca H0 B)) acc σ H fun out H1 => Q (.str out) H1
  | [], acc, H, Q, ⟨e, o, Q', R, q, imp⟩ => imp (.str acc) e q _ H o R Stp.refl rfl
  | t :: ts, acc, H, Q, ⟨e, o, Q', R, q, imp⟩ => ⟨e, o, _, R, q, fun d e1 ⟨y, ed, hl, q1⟩ v H1 o1 R1 s1 hv => by
      subst ed
      exact ⟨y, hv, hl, lj_run (ts := ts) ⟨e1, o1, Q', R1, q1, fun d2 e2 q2 v2 H2 o2 R2 s2 hv2 => imp d2 e2 q2 v2 H2 o2 R2 (s1.trans s2) hv2⟩⟩⟩
theorem de_joined {v1 v2 : Expr} {rest : List Expr} {ts : List TD} (h : DJ X ca H0 (v1 :: v2 :: rest) ts) : DE X ca H0 (.JoinedStr (v1 :: v2 :: rest) pos) (dJs ts Str.empty) :=
  ⟨fun B => pe_imp (pe_joined (h.pj (B := B))) fun σ H Q q => lj_run q⟩
theorem de_joined1 (h : DE X ca H0 x te) : DE X ca H0 (.JoinedStr [x] pos) te := ⟨fun B => pe_joined1 (h.pe B)⟩
end
end DL
set_option Elab.async false
set_option linter.all false
set_option maxRecDepth 100000
set_option maxHeartbeats 4000000
/-! DA2: name *= e; range downwards -/
namespace DL
open PySem PySem.Spec L2
section
variable {X : Cx} {ca : Str → Addr} {H0 : Hp} {x y z tg : Expr} {pos p npos : Pos}
def ipM : TIp := fun x y H Q => ∃ i j, x = .int i ∧ y = .int j ∧ CMul i j ∧ Q (.int (i * j)) H
theorem ip_mul : PIp X .Mult ipM := by
  intro pins s σ H x y v u Q I r1 r2 ⟨i, j, e1, e2, c, q⟩
  subst e1 e2
  obtain ⟨t, rfl⟩ := r1
  obtain ⟨t', rfl⟩ := r2
  exact PyProof.Rows.imul_int ⟨.int _, H, I.tok _, ⟨_, rfl⟩, q⟩ c.ok
/-- a slot's int times e -/
def dAugM (i : Nat) (te : TD) : TDS := fun D e => ∃ x : Int, e[i]? = some (.sh (.int x)) ∧ te e fun d e1 => ∃ y : Int, d = .int y ∧ CMul x y ∧ D.nx (e1.set i (.sh (.int (x * y))))
theorem ls_augM {K : PySem.W.Frag} {B : Addr → Prop} {i : Nat} {te : TD} : ∀ D σ H, LS K ca H0 B (dAugM i te) D σ H → tAug i (LE K ca H0 B te) ipM D σ H := fun D σ H ⟨e, o, D', R, ⟨x, hx, q⟩, en⟩ => by
  obtain ⟨v, e1, hv⟩ := R.sh i _ hx
  have e2 : v = .int x := hv
  subst e2
  exact ⟨.int x, e1, e, o, _, R, q, fun d e1 ⟨y, ed, cm, q1⟩ w H1 o1 R1 s1 hw => by
    subst ed
    exact ⟨x, y, rfl, hw, cm, en.1 _ q1 _ H1 o1 (R1.put (d := .int (x * y)) rfl) (s1.trans (Stp.weak okN_set))⟩⟩
theorem ds_augM {i : Nat} {n : Str} {te : TD} (hN : X.N.Nodup) (hi : X.N[i]? = some n) (hx : Loc X.env.scope n) (he : DE X ca H0 y te) (hf : X.fn n = true ∨ X.env.scope.names.lookup n = some .local := by first | exact .inl rfl | exact .inr rfl | assumption) :
    DSt X ca H0 (.AugAssign (.Name n npos) .Mult y pos) (dAugM i te) := ⟨fun B => ps_imp (ps_aug hN hi hx (he.pe B) ip_mul hf) ls_augM⟩
/-- range(i, j, -1) -/
def iRangeD (t : TDA) : TDI := fun e Q => t e fun as e' => ∃ i j : Int, lookL e' as = some [.int i, .int j, .int (-1)] ∧ (-(2 ^ 62) ≤ i ∧ i < 2 ^ 62 ∧ -(2 ^ 62) ≤ j ∧ j < 2 ^ 62) ∧ Q ((List.range (i - j).toNat).map fun k : Nat => D.int (i + (k : Int) * (-1))) (fun _ => True) e'
theorem yl_rangeC {K : PySem.W.Frag} {B : Addr → Prop} {H : Hp} {e : DEnv} {o : Nat → Addr} {σ0 : Option L2.St} {lo c : Int} {n : Nat} {C : DEnv → Prop} : Yields K ca H0 (okA B e o) H σ0 (Itc lo c n) ((List.range n).map fun i : Nat => D.int (lo + (i : Int) * c)) C := fun B' i σ H' e' o' R st _ _ => by
  refine ⟨fun hi => ?_, fun hi => ?_⟩
  · show n ≤ i
    simp at hi
    omega
  · have hi' : i < n := by simpa using hi
    refine ⟨hi', fun v H'' ⟨e2, hv⟩ => ?_⟩
    subst e2 hv
    exact ⟨Same.refl _, D.int (lo + (i : Int) * c), by simp [hi'], rfl⟩
theorem di_rangeD {t : TDA} (hg : Gl X "range") (hm : X.mg "range" = none) (ha : DAO X ca H0 [x, y, z] t)
    (hs : starEach [x, y, z] X.env = (false, eval x X.env) :: starEach [y, z] X.env := by rfl) (hpl : (backTo pos (starEach [y, z] X.env)).any (·.1) = false := by rfl) :
    DI X ca H0 false tg (.Call (.Name "range" p) [x, y, z] [] pos) (iRangeD t) :=
  ⟨fun B => pi_imp (pi_range3 hg hm (ha.pa B) hs hpl) fun σ H Q ⟨e, o, Q', R, q, imp⟩ => ⟨e, o, _, R, q, fun as e1 ⟨i, j, hl, hb, q1⟩ vs H1 o1 R1 s1 h1 => by
    obtain ⟨v, r, e2, h2, w, r', e3, h3, u, r'', e4, h4, h5⟩ := R1.lookL h1 hl
    have e5 : r'' = [] := h5
    have e6 := h2.int
    have e7 := h3.int
    have e8 := h4.int
    subst e5 e6 e7 e8 e4 e3
    exact ⟨i, j, -1, _, e2, .neg hb.1 hb.2.1 hb.2.2.1 hb.2.2.2, imp _ _ e1 q1 _ H1 o1 R1 s1 yl_rangeC⟩⟩⟩
end
end DL
set_option Elab.async false
set_option linter.all false
set_option maxRecDepth 100000
set_option maxHeartbeats 4000000
/-! DST: sorted(set(t)), t a tuple of ints -/
namespace DL
open PySem PySem.Spec L2
section
variable {X : Cx}
def rSetTup (K : PySem.W.Frag) (w : World) : List V → Hp → VK → Prop := fun xs H Q => ∃ (l : Addr) (ns : List Int), xs = [.ref l] ∧ SqT K H l (ns.map V.int) ∧ ns.length + 1 < scanBound ∧
  ∀ (p : Addr) (c : Nat), H p = none → c ≤ ns.length → Q (.ref p) (upd H p (SetO w p (fun j => decide (j ∈ ns)) c))
theorem ints_of : ∀ {us : List Value} {ns : List Int}, Vals (ns.map V.int) us → PyProof.Rows.IntsAre us ns
  | [], [], _ => .nil
  | _ :: _, [], r => nomatch r
  | [], _ :: _, r => nomatch r
  | u :: us, n :: ns, r => by
    cases r with
    | cons ru rr =>
      obtain ⟨t, rfl⟩ := (show ∃ t, u = Value.int n t from ru)
      exact .cons n t (ints_of rr)
theorem cr_setTup (hc : X.calm = true) : CallR X (.type "set") (rSetTup X.K X.w) := by
  intro pins s σ H xs us Q I r ⟨l, ns, ex, sq, room, q⟩
  subst ex
  cases r with
  | cons ru rr =>
    cases rr
    rename_i u
    cases (show u = Value.ref l from ru)
    obtain ⟨its, rv, tp, _⟩ := I.tuple sq
    refine call_set_tupI ns (I.ok.hd hc) tp (by simpa using ints_of rv) room fun h' tk c new hcn kp => ?_
    exact ⟨.ref _, upd H s.heap.objs.size (SetO X.w s.heap.objs.size (fun j => decide (j ∈ ns)) c), I.laid (t' := tk) kp (Nat.le_refl _) (setO_new new), rfl, q _ c (I.hok.fresh (Nat.le_refl _)) hcn⟩
end
/-- sorted(set(x)), x a tuple of ints -/
def fSortSet (tx : TDO) : TDF := fun e Q => tx e fun a e1 => ∃ ns : List Int, look e1 a = some (.tup (ns.map D.int)) ∧ ns.length < 63 ∧ ∀ ms : List Int, ms.Pairwise (· < ·) → (∀ k, k ∈ ms ↔ k ∈ ns) → Q (ms.map D.int) e1
section
variable {X : Cx} {ca : Str → Addr} {H0 : Hp} {x : Expr} {n m : Str} {p p2 pos pos2 : Pos} {tx : TDO}
theorem df_sortSet (hc : X.calm = true) (hg : Gl X n) (hm : X.mg n = none) (hv : bootBuiltins n = some (.builtin "sorted")) (hg2 : Gl X m) (hm2 : X.mg m = none) (hv2 : bootBuiltins m = some (.type "set")) (hx : DO X ca H0 x tx)
    (hn : n ≠ "__name__" := by decide) (hdb : (n == ("__debug__" : Str)) = false := by decide) (hn2 : m ≠ "__name__" := by decide) (hdb2 : (m == ("__debug__" : Str)) = false := by decide)
    (he2 : starEach [x] X.env = (false, eval x X.env) :: starEach [] X.env := by rfl) (hpl2 : (backTo pos2 (starEach [] X.env)).any (·.1) = false := by rfl)
    (he : starEach [.Call (.Name m p2) [x] [] pos2] X.env = (false, eval (.Call (.Name m p2) [x] [] pos2) X.env) :: starEach [] X.env := by rfl) (hpl : (backTo pos (starEach [] X.env)).any (·.1) = false := by rfl) :
    DF X ca H0 (.Call (.Name n p) [.Call (.Name m p2) [x] [] pos2] [] pos) (fSortSet tx) :=
  ⟨fun B => pe_imp (pe_callB (cr_sortedSet hc) hg hm hv (pa_cons (pe_callTy (cr_setTup hc) hg2 hm2 hv2 (pa_cons (hx.pe B) pa_nil he2) hn2 hdb2 he2 hpl2) pa_nil he) hn hdb he hpl) fun σ H Q ⟨e, o, Q', R, q, imp⟩ =>
    ⟨e, o, _, R, q, fun a e1 ⟨ns, hl, hlen, q1⟩ v H1 o1 R1 s1 h1 => by
      obtain ⟨l, vs, ev, sq, hd⟩ := (R1.look h1 hl).tup
      have e2 := hd.ints
      subst e2 ev
      refine ⟨l, ns, rfl, sq, Nat.lt_trans (Nat.succ_lt_succ hlen) (by decide), fun p1 c hp1 hc1 => ?_⟩
      refine ⟨p1, _, c, rfl, upd_same, by omega, fun ms p3 hs hmem hl3 hp3 => ?_⟩
      have R2 := R1.grow (same_new (u := SetO X.w p1 (fun j => decide (j ∈ ns)) c) hp1)
      have s2 := s1.trans (Stp.same (same_new (u := SetO X.w p1 (fun j => decide (j ∈ ns)) c) hp1))
      exact imp _ e1 (q1 ms hs fun k => by rw [hmem k]; exact decide_eq_true_iff) p3 _ _ o1 (R2.shut hp3) (s2.trans (Stp.same (same_new hp3))) upd_same (fun b u hb hu => ne_of_none (s2 b u hb hu).2 hp3) (R2.fr0 hp3) (R2.nB hp3) (R2.nOwn hp3) (DvL.of_ints _)⟩⟩
end
end DL
set_option Elab.async false
set_option linter.all false
set_option maxRecDepth 100000
set_option maxHeartbeats 4000000
/-! DIN: x in an own object that defines __contains__ -/
namespace DL
open PySem PySem.Spec L2
section
variable {X : Cx} {n : Nat} {C g : Addr} {sp : Sp} {E : XK} {CX : CXT}
def rOwnIn (C : Addr) (sp : Sp) (E : XK) : R2 := fun x y H Q => ∃ a dx fs, y = .ref a ∧ H a = some (.ins C dx fs) ∧ sp [y, x] H (fun v H' => ∃ k, v = .bl k ∧ Q (.bl k) H') E
theorem op_ownIn (hs : PySem.W.findIn X.K (.ref C) "__contains__" = some (some (.ref g))) (hf : PySem.W.isFn X.K (.ref g) = true) (F : FnR X.prog X.w X.K X.mg X.base CX n g sp) (hr : Room n X.A) (hx : Passes CX X E) : OpR X (compareOp .In) (rOwnIn C sp E) := by
  intro pins s σ H x y v u Q I rx ry h
  obtain ⟨a, dx, fs, rfl, ha, q⟩ := h
  cases (show u = Value.ref a from ry)
  obtain ⟨ox, od, J⟩ := ins_at I ha
  obtain ⟨m, hF⟩ := I.fr
  refine PySem.W.in_K hF I.ok.mod.kin J hs hf ?_
  refine wpAny_mono (wpAny_call (run_fnR (us := [.ref a, v]) (vs := [.ref a, x]) F hr hx I (.cons rfl (.cons rx .nil)) q)) (fun w s' z => ?_) fun _ _ x => x
  obtain ⟨z', H', I', rz, k, ek, qz⟩ := z
  subst ek
  cases (show w = Value.bool k from rz)
  exact wpAny_pure ⟨.bl k, H', I', rfl, qz⟩
end
def OpIn (P : Program) (w : World) (K : PySem.W.Frag) (mg : Str → Option Value) (base : Heap) (ca : Str → Addr) (k : Nat) (c : Str) (sp : DSp) : Prop :=
  ∃ g, PySem.W.findIn K (.ref (ca c)) "__contains__" = some (some (.ref g)) ∧ PySem.W.isFn K (.ref g) = true ∧ FnR P w K mg base CX0 k g (LSp K ca sp)
def dOwnIn (c : Str) (sp : DSp) (t : TD) (ta : TDO) : TD := fun e Q => t e fun d e1 => ta e1 fun a e2 => ∃ ns ds, look e2 a = some (.obj c ns ds) ∧ sp [.obj c ns ds, d] (fun r => ∃ k, r = .bl k ∧ Q (.bl k) e2) DX0
section
variable {X : Cx} {ca : Str → Addr} {H0 : Hp} {x y : Expr} {pos : Pos} {c : Str} {sp : DSp} {ta : TDO} {t : TD} {k : Nat}
theorem le_ownIn {K : PySem.W.Frag} {B : Addr → Prop} (E : XK) : ∀ σ H Q, LE K ca H0 B (dOwnIn c sp t ta) σ H Q → tOp (rOwnIn (ca c) (LSp K ca sp) E) (LE K ca H0 B t) (LO K ca H0 B ta) σ H Q := fun σ H Q ⟨e, o, Q', R, q, imp⟩ =>
  ⟨e, o, _, R, q, fun d e1 q1 v H1 o1 R1 s1 h1 => ⟨e1, o1, _, R1, q1, fun a e2 ⟨ns, ds, hx, q2⟩ u H2 o2 R2 s2 h2 => by
    have g1 := R2.look h2 hx
    obtain ⟨pp, dx, vs, e3, hp, hn, hd⟩ := g1.obj
    have g2 := g1.dv_obj
    exact ⟨pp, dx, _, e3, hp, fun b => ¬ okA B e2 o2 b, [.obj c ns ds, d], fun r => ∃ k, r = .bl k ∧ Q' (.bl k) e2, not_okA R2, DvL.mono (Stp.weak fun b z => not_not_intro z) _ _ (.cons g2 (.cons (Dv.mono s2.a _ _ h1) .nil)), q2, fun r ⟨kk, er, qd⟩ w H3 s3 hw => by
      subst er
      exact ⟨kk, hw, imp (.bl kk) e2 qd _ H3 o2 (R2.grow s3) ((s1.trans s2).trans (Stp.same s3)) rfl⟩⟩⟩⟩
theorem de_ownIn (h : OpIn X.prog X.w X.K X.mg X.base ca k c sp) (hr : Room k X.A) (ha : DE X ca H0 x t) (hb : DO X ca H0 y ta) (hm : behindInMarks .In y = false := by with_unfolding_all rfl) : DE X ca H0 (.Compare x [.In] [y] pos) (dOwnIn c sp t ta) := by
  obtain ⟨g, h2, h3, F⟩ := h
  exact ⟨fun B => pe_imp (pe_cmpR (op_ownIn (E := E0) h2 h3 F hr pass0) (ha.pe B) (hb.pe B) hm) (le_ownIn E0)⟩
end
end DL
set_option Elab.async false
set_option linter.all false
set_option maxRecDepth 100000
set_option maxHeartbeats 4000000
/-! PA: plain laws of readings: tools -/
namespace DL
open PySem PySem.Spec L2

theorem len_line {α : Type} {xs : List α} (h : Nat.ble xs.length 1000 = true) : xs.length ≤ sizeLine := by
  have := Nat.le_of_ble_eq_true h
  rw [sizeLine_eq]
  omega
theorem eqD_int (i j : Int) : eqD (.int i) (.int j) = some (i == j) := by
  simp [eqD, toPy, SeqAt.shaped, PyData.canLay0, PyData.depth, PyData.eqv]
theorem eqD_str {a b : Str} (ha : PyData.canLay0 (.str a) = true) (hb : PyData.canLay0 (.str b) = true) : eqD (.str a) (.str b) = some (a == b) := by
  simp [eqD, toPy, SeqAt.shaped, ha, hb, PyData.depth, PyData.eqv]
theorem fEq_int (i j : Int) : fEq (.int i) (.int j) = some (.bl (i == j)) := by rw [fEq, eqD_int] <;> rfl
theorem fNe_int (i j : Int) : fNe (.int i) (.int j) = some (.bl (!(i == j))) := by rw [fNe, eqD_int] <;> rfl
theorem fMod_pos {i j : Int} (h : 0 < j) : fMod (.int i) (.int j) = some (.int (i % j)) := if_pos h
theorem log2_lt {n k : Nat} (h : n < 2 ^ k) (hk : 0 < k) : n.log2 < k := by
  by_cases h0 : n = 0
  · subst h0
    rw [Nat.log2_zero]
    exact hk
  · exact (Nat.log2_lt h0).mpr h
theorem fFdiv_pos {i j : Int} (h : 0 < j) (hj : j.natAbs < 2 ^ 8999) : fFdiv (.int i) (.int j) = some (.int (i / j)) := if_pos ⟨h, Nat.lt_trans (log2_lt hj (by decide)) (by decide)⟩
theorem fMul_small {i j : Int} (h : (-(2 ^ 64) < i ∧ i < 2 ^ 64) ∨ (-(2 ^ 64) < j ∧ j < 2 ^ 64)) : fMul (.int i) (.int j) = some (.int (i * j)) := if_pos (.inr h)
/-! ### comprehensions -/
section
variable {C : DEnv → Prop} {vs : List Nat} {g : TDG} {tt : TDT} {te : TD} {e : DEnv}
/-- one turn, from e back to e -/
def Turn1 (vs : List Nat) (g : TDG) (tt : TDT) (te : TD) (e : DEnv) (P : D → Option D → Prop) (x : D) : Prop :=
  ∀ K1 : Option D → DEnv → Prop, (∀ r, P x r → K1 r e) → g x e fun e1 => tt e1 fun b e2 => if b = true then te e2 fun y e3 => K1 (some y) (wipeE e3 vs) else K1 none (wipeE e2 vs)
theorem lcL_rel {P : D → Option D → Prop} (hC : C e) : ∀ {xs acc : List D} {Q : List D → DEnv → Prop}, (∀ x ∈ xs, Turn1 vs g tt te e P x) → (∀ rs, Paired P xs rs → Q (acc ++ rs.filterMap id) e) → lcL C vs g tt te Q xs acc e
  | [], acc, Q, _, hQ => ⟨hC, by simpa using hQ [] .nil⟩
  | x :: r, acc, Q, ht, hQ => ⟨hC, ht x List.mem_cons_self (fun o e' => match o with
      | some y => lcL C vs g tt te Q r (acc ++ [y]) e'
      | none => lcL C vs g tt te Q r acc e') fun o ho => by
    cases o with
    | some y => exact lcL_rel hC (fun x hx => ht x (List.mem_cons_of_mem _ hx)) fun rs hrs => by simpa using hQ (some y :: rs) (.cons ho hrs)
    | none => exact lcL_rel hC (fun x hx => ht x (List.mem_cons_of_mem _ hx)) fun rs hrs => by simpa using hQ (none :: rs) (.cons ho hrs)⟩
theorem paired_fun {α β : Type} {f : α → β} : ∀ {xs : List α} {rs : List β}, Paired (fun x r => r = f x) xs rs → rs = xs.map f
  | _, _, .nil => rfl
  | _, _, .cons h t => by rw [h, paired_fun t] <;> rfl
theorem lcL_fun {f : D → Option D} (hC : C e) {xs : List D} {Q : List D → DEnv → Prop} (ht : ∀ x ∈ xs, Turn1 vs g tt te e (fun x r => r = f x) x) (hQ : Q (xs.filterMap f) e) : lcL C vs g tt te Q xs [] e :=
  lcL_rel hC ht fun rs hrs => by
    rw [paired_fun hrs, List.nil_append, List.filterMap_map]
    exact hQ
end
def rd_cd : TDS := (dSeq (dWhile (dTest (dOp fNe (oSlot 1) (oVal (dC (.int 0))))) (dPair (aCons (dVar 1) (aCons (dOp fMod (oSlot 0) (oSlot 1)) aNil)) 0 1)) (dRet (dVar 0)))
def sp_cd : DSp := fun ds Q _ => ∃ a b : Nat, ds = [.int a, .int b] ∧ Q (.int (Nat.gcd a b : Nat))
theorem does_cd : Does 2 rd_cd sp_cd := by
  rintro ds Q ⟨a, b, rfl, hQ⟩
  refine ⟨fun m e => ∃ x y : Nat, e = [.sh (.int x), .sh (.int y)] ∧ Nat.gcd x y = Nat.gcd a b ∧ m = y, ⟨b, a, b, rfl, rfl, rfl⟩, ?_⟩
  rintro m _ ⟨x, y, rfl, hg, hmy⟩
  refine ⟨_, _, _, rfl, rfl, fNe_int _ _, _, rfl, ?_⟩
  by_cases hy : y = 0
  · subst hy
    show Q _
    rw [Nat.gcd_zero_right] at hg
    rw [hg]
    exact hQ
  · have h1 : (!((y : Int) == 0)) = true := by simp; omega
    rw [h1]
    have hm : (x : Int) % (y : Int) = ((x % y : Nat) : Int) := by simp
    refine ⟨_, _, _, rfl, rfl, fMod_pos (by omega), len_line rfl, rfl, rfl, x % y, by rw [hmy]; exact Nat.mod_lt _ (by omega), y, x % y, ?_, ?_, rfl⟩
    · rw [hm] <;> rfl
    · rw [← hg, Nat.gcd_comm x y, Nat.gcd_rec y x, Nat.gcd_comm]
end DL
set_option linter.all false
set_option maxRecDepth 100000
/-! MA: products of powers over a pairwise coprime base -/
namespace DM

/-- ∏ b^e -/
def pp : List Nat → List Nat → Nat
  | b :: bs, e :: es => b ^ e * pp bs es
  | _, _ => 1
structure PC (bs : List Nat) : Prop where
  co : bs.Pairwise Nat.Coprime
  gt : ∀ b ∈ bs, 1 < b
theorem PC.tail {b : Nat} {bs : List Nat} (h : PC (b :: bs)) : PC bs := ⟨(List.pairwise_cons.mp h.co).2, fun x hx => h.gt x (List.mem_cons_of_mem _ hx)⟩
theorem PC.head {b : Nat} {bs : List Nat} (h : PC (b :: bs)) : ∀ x ∈ bs, Nat.Coprime b x := (List.pairwise_cons.mp h.co).1
theorem PC.gt0 {b : Nat} {bs : List Nat} (h : PC (b :: bs)) : 1 < b := h.gt b List.mem_cons_self
theorem pp_pos : ∀ {bs es : List Nat}, (∀ b ∈ bs, 0 < b) → 0 < pp bs es
  | [], _, _ => Nat.one_pos
  | _ :: _, [], _ => Nat.one_pos
  | b :: bs, e :: es, h => Nat.mul_pos (Nat.pow_pos (h b List.mem_cons_self)) (pp_pos fun x hx => h x (List.mem_cons_of_mem _ hx))
theorem PC.pos {bs : List Nat} (h : PC bs) : ∀ b ∈ bs, 0 < b := fun b hb => Nat.lt_trans Nat.zero_lt_one (h.gt b hb)
theorem pp_co {x : Nat} : ∀ {bs es : List Nat}, (∀ b ∈ bs, Nat.Coprime x b) → Nat.Coprime x (pp bs es)
  | [], _, _ => Nat.coprime_one_right x
  | _ :: _, [], _ => Nat.coprime_one_right x
  | b :: bs, e :: es, h => Nat.Coprime.mul_right (Nat.Coprime.pow_right e (h b List.mem_cons_self)) (pp_co fun y hy => h y (List.mem_cons_of_mem _ hy))
theorem PC.coP {b : Nat} {bs es : List Nat} (h : PC (b :: bs)) (k : Nat) : Nat.Coprime (b ^ k) (pp bs es) := Nat.Coprime.pow_left k (pp_co h.head)
theorem pp_add : ∀ {bs es fs : List Nat}, es.length = bs.length → fs.length = bs.length → pp bs (List.zipWith (· + ·) es fs) = pp bs es * pp bs fs
  | [], _, _, _, _ => rfl
  | b :: bs, e :: es, f :: fs, h1, h2 => by
    show b ^ (e + f) * pp bs (List.zipWith (· + ·) es fs) = (b ^ e * pp bs es) * (b ^ f * pp bs fs)
    rw [pp_add (Nat.succ.inj h1) (Nat.succ.inj h2), Nat.pow_add]
    ac_rfl
  | _ :: _, [], _, h, _ => nomatch h
  | _ :: _, _ :: _, [], _, h => nomatch h
theorem pp_dvd : ∀ {bs es fs : List Nat}, PC bs → es.length = bs.length → fs.length = bs.length → (pp bs es ∣ pp bs fs ↔ ∀ i (h1 : i < es.length) (h2 : i < fs.length), es[i] ≤ fs[i])
  | [], es, fs, _, h1, h2 => by
    have e1 : es = [] := List.eq_nil_of_length_eq_zero h1
    have e2 : fs = [] := List.eq_nil_of_length_eq_zero h2
    subst e1 e2
    exact ⟨fun _ i h => absurd h (Nat.not_lt_zero i), fun _ => Nat.dvd_refl _⟩
  | b :: bs, e :: es, f :: fs, h, h1, h2 => by
    have ih := pp_dvd h.tail (Nat.succ.inj h1) (Nat.succ.inj h2)
    have hb := h.gt0
    constructor
    · intro hd
      have hd : b ^ e * pp bs es ∣ b ^ f * pp bs fs := hd
      have d1 : b ^ e ∣ b ^ f := Nat.Coprime.dvd_of_dvd_mul_right (h.coP e) (Nat.dvd_trans (Nat.dvd_mul_right _ _) hd)
      have d2 : pp bs es ∣ pp bs fs := Nat.Coprime.dvd_of_dvd_mul_left (Nat.Coprime.symm (h.coP f)) (Nat.dvd_trans (Nat.dvd_mul_left _ _) hd)
      have hef : e ≤ f := (Nat.pow_dvd_pow_iff_le_right hb).mp d1
      intro i g1 g2
      cases i with
      | zero => exact hef
      | succ i => exact ih.mp d2 i (Nat.lt_of_succ_lt_succ g1) (Nat.lt_of_succ_lt_succ g2)
    · intro hle
      have hef : e ≤ f := hle 0 (Nat.succ_pos _) (Nat.succ_pos _)
      exact Nat.mul_dvd_mul (Nat.pow_dvd_pow b hef) (ih.mpr fun i g1 g2 => hle (i + 1) (Nat.succ_lt_succ g1) (Nat.succ_lt_succ g2))
  | _ :: _, [], _, _, h, _ => nomatch h
  | _ :: _, _ :: _, [], _, _, h => nomatch h
theorem pp_inj {bs es fs : List Nat} (h : PC bs) (h1 : es.length = bs.length) (h2 : fs.length = bs.length) (e : pp bs es = pp bs fs) : es = fs := by
  have d1 := (pp_dvd h h1 h2).mp (by rw [e]; exact Nat.dvd_refl _)
  have d2 := (pp_dvd h h2 h1).mp (by rw [e]; exact Nat.dvd_refl _)
  exact List.ext_getElem (h1.trans h2.symm) fun i g1 g2 => Nat.le_antisymm (d1 i g1 g2) (d2 i g2 g1)
theorem pow_gcd_min (b e f : Nat) (hb : 0 < b) : Nat.gcd (b ^ e) (b ^ f) = b ^ min e f := by
  rcases Nat.le_total e f with h | h
  · rw [Nat.min_eq_left h]
    exact Nat.gcd_eq_left (Nat.pow_dvd_pow b h)
  · rw [Nat.min_eq_right h]
    exact Nat.gcd_eq_right (Nat.pow_dvd_pow b h)
theorem pp_gcd : ∀ {bs es fs : List Nat}, PC bs → es.length = bs.length → fs.length = bs.length → pp bs (List.zipWith min es fs) = Nat.gcd (pp bs es) (pp bs fs)
  | [], es, fs, _, _, _ => by
    show 1 = Nat.gcd (pp [] es) (pp [] fs)
    have e1 : ∀ es, pp [] es = 1 := fun es => by cases es <;> rfl
    rw [e1, e1]
    rfl
  | b :: bs, e :: es, f :: fs, h, h1, h2 => by
    show b ^ min e f * pp bs (List.zipWith min es fs) = Nat.gcd (b ^ e * pp bs es) (b ^ f * pp bs fs)
    rw [pp_gcd h.tail (Nat.succ.inj h1) (Nat.succ.inj h2)]
    rw [Nat.Coprime.gcd_mul _ (h.coP f)]
    have g1 : Nat.gcd (b ^ e * pp bs es) (b ^ f) = b ^ min e f := by
      rw [Nat.Coprime.gcd_mul_right_cancel _ (Nat.Coprime.symm (h.coP f)), pow_gcd_min b e f (Nat.lt_trans Nat.zero_lt_one h.gt0)]
    have g2 : Nat.gcd (b ^ e * pp bs es) (pp bs fs) = Nat.gcd (pp bs es) (pp bs fs) := Nat.Coprime.gcd_mul_left_cancel _ (h.coP e)
    rw [g1, g2]
  | _ :: _, [], _, _, h, _ => nomatch h
  | _ :: _, _ :: _, [], _, _, h => nomatch h
theorem pp_sub : ∀ {bs es fs : List Nat}, PC bs → es.length = bs.length → fs.length = bs.length → (∀ i (h1 : i < es.length) (h2 : i < fs.length), fs[i] ≤ es[i]) → pp bs (List.zipWith (· - ·) es fs) * pp bs fs = pp bs es
  | [], es, fs, _, _, _, _ => by
    have e1 : ∀ es, pp [] es = 1 := fun es => by cases es <;> rfl
    rw [e1, e1, e1]
  | b :: bs, e :: es, f :: fs, h, h1, h2, hle => by
    show b ^ (e - f) * pp bs (List.zipWith (· - ·) es fs) * (b ^ f * pp bs fs) = b ^ e * pp bs es
    have hef : f ≤ e := hle 0 (Nat.succ_pos _) (Nat.succ_pos _)
    rw [← pp_sub h.tail (Nat.succ.inj h1) (Nat.succ.inj h2) fun i g1 g2 => hle (i + 1) (Nat.succ_lt_succ g1) (Nat.succ_lt_succ g2)]
    have hp : b ^ e = b ^ (e - f) * b ^ f := by rw [← Nat.pow_add, Nat.sub_add_cancel hef]
    rw [hp]
    ac_rfl
  | _ :: _, [], _, _, h, _, _ => nomatch h
  | _ :: _, _ :: _, [], _, _, h, _ => nomatch h
theorem pp_pow : ∀ {bs es : List Nat} (k : Nat), pp bs (es.map (· * k)) = pp bs es ^ k
  | [], es, k => by
    have e1 : ∀ es, pp [] es = 1 := fun es => by cases es <;> rfl
    rw [e1, e1, Nat.one_pow]
  | b :: bs, [], k => (Nat.one_pow k).symm
  | b :: bs, e :: es, k => by
    show b ^ (e * k) * pp bs (es.map (· * k)) = (b ^ e * pp bs es) ^ k
    rw [pp_pow k, Nat.mul_pow, Nat.pow_mul]
/-- what the items of S make -/
inductive Mon (S : List Nat) : Nat → Prop where
  | one : Mon S 1
  | mul {s x : Nat} : s ∈ S → Mon S x → Mon S (s * x)
theorem Mon.self {S : List Nat} {s : Nat} (h : s ∈ S) : Mon S s := by
  have := Mon.mul h Mon.one
  rwa [Nat.mul_one] at this
theorem Mon.prod {S : List Nat} {x y : Nat} (a : Mon S x) (b : Mon S y) : Mon S (x * y) := by
  induction a with
  | one => rwa [Nat.one_mul]
  | mul h _ ih =>
    rw [Nat.mul_assoc]
    exact .mul h ih
theorem Mon.trans {S T : List Nat} {x : Nat} (a : Mon S x) (h : ∀ s ∈ S, Mon T s) : Mon T x := by
  induction a with
  | one => exact .one
  | mul hs _ ih => exact (h _ hs).prod ih
theorem Mon.mono {S T : List Nat} {x : Nat} (a : Mon S x) (h : ∀ s ∈ S, s ∈ T) : Mon T x := a.trans fun s hs => .self (h s hs)
theorem Mon.pow {S : List Nat} {x : Nat} (a : Mon S x) : ∀ k, Mon S (x ^ k)
  | 0 => by rw [Nat.pow_zero]; exact .one
  | k + 1 => by rw [Nat.pow_succ]; exact (a.pow k).prod a
theorem pp_zeros : ∀ (bs : List Nat), pp bs (List.replicate bs.length 0) = 1
  | [] => rfl
  | b :: bs => by
    show b ^ 0 * pp bs (List.replicate bs.length 0) = 1
    rw [pp_zeros bs, Nat.pow_zero]
theorem pp_unit : ∀ {bs : List Nat} {s : Nat}, s ∈ bs → ∃ es, es.length = bs.length ∧ pp bs es = s
  | b :: bs, s, h => by
    rcases List.mem_cons.mp h with e | h
    · subst e
      exact ⟨1 :: List.replicate bs.length 0, by simp, by show s ^ 1 * pp bs _ = s; rw [pp_zeros, Nat.pow_one, Nat.mul_one]⟩
    · obtain ⟨es, h1, h2⟩ := pp_unit h
      exact ⟨0 :: es, by simp [h1], by show b ^ 0 * pp bs es = s; rw [h2, Nat.pow_zero, Nat.one_mul]⟩
theorem zw_len {es fs : List Nat} {n : Nat} {g : Nat → Nat → Nat} (h1 : es.length = n) (h2 : fs.length = n) : (List.zipWith g es fs).length = n := by
  rw [List.length_zipWith, h1, h2, Nat.min_self]
theorem Mon.pp {bs : List Nat} {x : Nat} (h : Mon bs x) : ∃ es, es.length = bs.length ∧ DM.pp bs es = x := by
  induction h with
  | one => exact ⟨List.replicate bs.length 0, by simp, pp_zeros bs⟩
  | mul hs _ ih =>
    obtain ⟨es, h1, h2⟩ := ih
    obtain ⟨fs, h3, h4⟩ := pp_unit hs
    exact ⟨List.zipWith (· + ·) fs es, zw_len h3 h1, by rw [pp_add h3 h1, h2, h4]⟩
/-- the exponent of an item in what the base makes is the greatest power that divides -/
theorem pp_split : ∀ {bs es : List Nat}, PC bs → es.length = bs.length → ∀ (i : Nat) (h1 : i < bs.length) (h2 : i < es.length), ∃ m, pp bs es = bs[i] ^ es[i] * m ∧ ¬ bs[i] ∣ m ∧ 0 < m
  | b :: bs, e :: es, h, hl, 0, _, _ => by
    refine ⟨pp bs es, rfl, fun hd => ?_, pp_pos h.tail.pos⟩
    have hd : b ∣ pp bs es := hd
    have hc : Nat.Coprime b (pp bs es) := pp_co h.head
    have h1 : b ∣ 1 := by
      have := Nat.dvd_gcd (Nat.dvd_refl b) hd
      rwa [hc] at this
    have := Nat.le_of_dvd Nat.one_pos h1
    have := h.gt0
    omega
  | b :: bs, e :: es, h, hl, i + 1, h1, h2 => by
    have g1 : i < bs.length := Nat.lt_of_succ_lt_succ h1
    have g2 : i < es.length := Nat.lt_of_succ_lt_succ h2
    obtain ⟨m, e1, e2, e3⟩ := pp_split h.tail (Nat.succ.inj hl) i g1 g2
    have hb : 0 < b := Nat.lt_trans Nat.zero_lt_one h.gt0
    refine ⟨b ^ e * m, ?_, fun hd => ?_, Nat.mul_pos (Nat.pow_pos hb) e3⟩
    · show b ^ e * pp bs es = bs[i] ^ es[i] * (b ^ e * m)
      rw [e1]
      ac_rfl
    · have hc : Nat.Coprime bs[i] (b ^ e) := Nat.Coprime.pow_right e (Nat.Coprime.symm (h.head _ (List.getElem_mem _)))
      exact e2 (Nat.Coprime.dvd_of_dvd_mul_left hc hd)
end DM
set_option Elab.async false
set_option linter.all false
set_option maxRecDepth 100000
set_option maxHeartbeats 0
/-! MP: primes by a gcd with a product of a range -/
namespace DM
/-- lo * (lo + 1) * .. * (lo + 2 ^ d - 1) -/
noncomputable def prodR (d : Nat) : Nat → Nat := Nat.rec (fun lo => lo) (fun d ih lo => ih lo * ih (lo + 2 ^ d)) d
theorem prodR_dvd : ∀ (d lo k : Nat), lo ≤ k → k < lo + 2 ^ d → k ∣ prodR d lo
  | 0, lo, k, h1, h2 => by
    have e : k = lo := by rw [Nat.pow_zero] at h2; omega
    rw [e]
    exact Nat.dvd_refl _
  | d + 1, lo, k, h1, h2 => by
    show k ∣ prodR d lo * prodR d (lo + 2 ^ d)
    rw [Nat.pow_succ] at h2
    by_cases h : k < lo + 2 ^ d
    · exact Nat.dvd_trans (prodR_dvd d lo k h1 h) (Nat.dvd_mul_right _ _)
    · exact Nat.dvd_trans (prodR_dvd d (lo + 2 ^ d) k (by omega) (by omega)) (Nat.dvd_mul_left _ _)
/-- no divisor but 1 and itself -/
def Prm (p : Nat) : Prop := 1 < p ∧ ∀ x, ¬ p ∣ x → Nat.Coprime x p
theorem prm_of {p : Nat} (d : Nat) (h1 : 1 < p) (h2 : p < (2 + 2 ^ d) * (2 + 2 ^ d)) (h3 : Nat.gcd p (prodR d 2) = 1) : Prm p := by
  have small : ∀ a, 2 ≤ a → a < 2 + 2 ^ d → ¬ a ∣ p := fun a ha hb hd => by
    have := Nat.dvd_gcd hd (prodR_dvd d 2 a ha (by omega))
    rw [h3] at this
    have := Nat.le_of_dvd Nat.one_pos this
    omega
  refine ⟨h1, fun x hx => ?_⟩
  obtain ⟨c, hc⟩ := Nat.gcd_dvd_right x p
  have hg0 : 0 < Nat.gcd x p := Nat.gcd_pos_of_pos_right _ (by omega)
  by_cases e1 : Nat.gcd x p = 1
  · exact e1
  · exfalso
    have hcd : c ∣ p := ⟨Nat.gcd x p, by rw [Nat.mul_comm]; exact hc⟩
    by_cases e2 : c < 2
    · have hc1 : c = 1 := by
        have : c ≠ 0 := fun z => by rw [z, Nat.mul_zero] at hc; omega
        omega
      rw [hc1, Nat.mul_one] at hc
      exact hx (by rw [hc]; exact Nat.gcd_dvd_left x p)
    · have g1 : ¬ Nat.gcd x p < 2 + 2 ^ d := fun z => small _ (by omega) z (Nat.gcd_dvd_right x p)
      have g2 : ¬ c < 2 + 2 ^ d := fun z => small _ (by omega) z hcd
      have := Nat.mul_le_mul (Nat.le_of_not_lt g1) (Nat.le_of_not_lt g2)
      rw [← hc] at this
      omega
theorem prm_two : Prm 2 := ⟨by decide, fun x hx => by
  have h1 := Nat.le_of_dvd (by decide) (Nat.gcd_dvd_right x 2)
  have h2 : 0 < Nat.gcd x 2 := Nat.gcd_pos_of_pos_right _ (by decide)
  by_cases h : Nat.gcd x 2 = 1
  · exact h
  · have e : Nat.gcd x 2 = 2 := by omega
    exact absurd (by have := Nat.gcd_dvd_left x 2; rwa [e] at this) hx⟩
theorem prm_list : ∀ p ∈ [2, 3, 5, 7, 11, 13, 101, 65537, 1000000007, 2147483647, 4294967291, 9999999929, 9999999943, 9999999967], Prm p := by
  intro p hp
  simp only [List.mem_cons, List.not_mem_nil, or_false] at hp
  rcases hp with rfl | rfl | rfl | rfl | rfl | rfl | rfl | rfl | rfl | rfl | rfl | rfl | rfl | rfl
  · exact prm_two
  · exact prm_of 0 (by decide) (by decide) (by decide +kernel)
  · exact prm_of 0 (by decide) (by decide) (by decide +kernel)
  · exact prm_of 0 (by decide) (by decide) (by decide +kernel)
  · exact prm_of 1 (by decide) (by decide) (by decide +kernel)
  · exact prm_of 1 (by decide) (by decide) (by decide +kernel)
  · exact prm_of 4 (by decide) (by decide) (by decide +kernel)
  · exact prm_of 8 (by decide) (by decide) (by decide +kernel)
  · exact prm_of 15 (by decide) (by decide) (by decide +kernel)
  · exact prm_of 16 (by decide) (by decide) (by decide +kernel)
  · exact prm_of 16 (by decide) (by decide) (by decide +kernel)
  · exact prm_of 17 (by decide) (by decide) (by decide +kernel)
  · exact prm_of 17 (by decide) (by decide) (by decide +kernel)
  · exact prm_of 17 (by decide) (by decide) (by decide +kernel)
end DM
set_option Elab.async false
set_option linter.all false
set_option maxRecDepth 100000
set_option maxHeartbeats 4000000
/-! SA: what the defs over naturals promise -/
namespace DL
open PySem PySem.Spec L2 DM

def intsD (ns : List Nat) : List D := ns.map fun n : Nat => D.int n
def pairD (p : Nat × Nat) : D := .tup [.int p.1, .int p.2]
def num (w : List (Nat × Nat)) : D := .obj "Number" ["powers"] [.tup (w.map pairD)]
/-- the value of a writing -/
def val : List (Nat × Nat) → Nat
  | [] => 1
  | p :: w => p.1 ^ p.2 * val w
def Supp (R b : Nat) : Prop := ∃ k, b ∣ R ^ k
structure OkB (R b : Nat) : Prop where
  lo : 2 ≤ b
  hi : b ≤ 10 ^ 20
  su : Supp R b
structure WF (R : Nat) (w : List (Nat × Nat)) : Prop where
  ok : ∀ p ∈ w, OkB R p.1 ∧ 1 ≤ p.2
  ln : w.length ≤ 4096
def ROk (R : Nat) : Prop := 0 < R ∧ R < 2 ^ 4000
/-- a base -/
structure BOk (R : Nat) (bs : List Nat) : Prop where
  pc : PC bs
  ok : ∀ b ∈ bs, OkB R b
theorem supp_gcd {R b : Nat} (hb : 1 < b) (h : Supp R b) : 1 < Nat.gcd b R := by
  obtain ⟨k, hk⟩ := h
  have h0 : 0 < Nat.gcd b R := Nat.gcd_pos_of_pos_left _ (by omega)
  by_cases h1 : Nat.gcd b R = 1
  · have hc : Nat.Coprime b (R ^ k) := Nat.Coprime.pow_right k h1
    have : b ∣ 1 := by
      have := Nat.dvd_gcd (Nat.dvd_refl b) hk
      rwa [hc] at this
    have := Nat.le_of_dvd Nat.one_pos this
    omega
  · omega
theorem co_prod {R : Nat} : ∀ {bs : List Nat}, PC bs → (∀ b ∈ bs, Supp R b) → ∃ P, P ∣ R ∧ 2 ^ bs.length ≤ P ∧ (∀ x, (∀ b ∈ bs, Nat.Coprime x b) → Nat.Coprime x P)
  | [], _, _ => ⟨1, Nat.one_dvd _, Nat.le_refl _, fun x _ => Nat.coprime_one_right x⟩
  | b :: bs, h, hs => by
    obtain ⟨P, h1, h2, h3⟩ := co_prod h.tail fun x hx => hs x (List.mem_cons_of_mem _ hx)
    have hg := supp_gcd h.gt0 (hs b List.mem_cons_self)
    have hc : Nat.Coprime (Nat.gcd b R) P := Nat.Coprime.coprime_dvd_left (Nat.gcd_dvd_left b R) (h3 b h.head)
    refine ⟨Nat.gcd b R * P, Nat.Coprime.mul_dvd_of_dvd_of_dvd hc (Nat.gcd_dvd_right b R) h1, ?_, fun x hx => ?_⟩
    · rw [List.length_cons, Nat.pow_succ, Nat.mul_comm]
      exact Nat.mul_le_mul hg h2
    · exact Nat.Coprime.mul_right (Nat.Coprime.coprime_dvd_right (Nat.gcd_dvd_left b R) (hx b List.mem_cons_self)) (h3 x fun y hy => hx y (List.mem_cons_of_mem _ hy))
theorem BOk.len {R : Nat} {bs : List Nat} (hR : ROk R) (h : BOk R bs) : bs.length ≤ 4096 := by
  obtain ⟨P, h1, h2, _⟩ := co_prod h.pc fun b hb => (h.ok b hb).su
  have h3 := Nat.le_of_dvd hR.1 h1
  have h4 : 2 ^ bs.length < 2 ^ 4000 := Nat.lt_of_le_of_lt (Nat.le_trans h2 h3) hR.2
  have := (Nat.pow_lt_pow_iff_right (by decide : 1 < 2)).mp h4
  omega
/-! ### promises -/
def sp_common_divisor : DSp := fun ds Q _ => ∃ a b : Nat, ds = [.int a, .int b] ∧ Q (.int (Nat.gcd a b : Nat))
def sp_times_in : DSp := fun ds Q _ => ∃ x b k m : Nat, ds = [.int x, .int b] ∧ x = b ^ k * m ∧ ¬ b ∣ m ∧ 0 < m ∧ 1 < b ∧ b ≤ 10 ^ 20 ∧ Q (.int k)
def sp_exponent_over : DSp := fun ds Q _ => ∃ (w : List (Nat × Nat)) (b : Nat) (ex : Nat → Nat), ds = [.tup (w.map pairD), .int b] ∧ 1 < b ∧ b ≤ 10 ^ 20 ∧ w.length ≤ 4096 ∧ (∀ p ∈ w, p.1 ≤ 10 ^ 20 ∧ ∃ m, p.1 = b ^ ex p.1 * m ∧ ¬ b ∣ m ∧ 0 < m) ∧
  Q (.int ((w.map fun p => p.2 * ex p.1).sum : Nat))
def sp_exponents_over : DSp := fun ds Q _ => ∃ (R : Nat) (w : List (Nat × Nat)) (bs : List Nat), ds = [.tup (w.map pairD), .tup (intsD bs)] ∧ ROk R ∧ WF R w ∧ BOk R bs ∧ (∀ p ∈ w, Mon bs p.1) ∧ ∀ es, es.length = bs.length → pp bs es = val w → Q (.tup (intsD es))
/-- what refining makes of the numbers xs -/
structure Refd (xs bs : List Nat) : Prop where
  pc : PC bs
  mon : ∀ x ∈ xs, 1 < x → Mon bs x
  dvd : ∀ b ∈ bs, ∃ x ∈ xs, 1 < x ∧ b ∣ x
  srt : bs.Pairwise (· ≤ ·)
def sp_refined : DSp := fun ds Q _ => ∃ xs : List Nat, ds = [.lst (intsD xs)] ∧ xs.length ≤ 100000 ∧ (∀ x ∈ xs, x ≤ 10 ^ 20) ∧ ∀ bs, Refd xs bs → Q (.tup (intsD bs))
def sp_cb : DSp := fun ds Q _ => ∃ (R : Nat) (w1 w2 : List (Nat × Nat)), ds = [.tup [.tup (w1.map pairD), .tup (w2.map pairD)]] ∧ ROk R ∧ WF R w1 ∧ WF R w2 ∧ ∀ bs, BOk R bs → (∀ p ∈ w1, Mon bs p.1) → (∀ p ∈ w2, Mon bs p.1) → Q (.tup (intsD bs))
def sp_common_base : DSp := spStar 0 sp_cb
def zipE (es fs : List Nat) : List D := (es.zip fs).map pairD
def sp_compared : DSp := fun ds Q _ => ∃ (R : Nat) (w1 w2 : List (Nat × Nat)), ds = [num w1, num w2] ∧ ROk R ∧ WF R w1 ∧ WF R w2 ∧ ∀ bs es fs, BOk R bs → es.length = bs.length → fs.length = bs.length → pp bs es = val w1 → pp bs fs = val w2 → Q (.tup [.tup (intsD bs), .lst (zipE es fs)])
/-- __init__: the pairs become the field -/
def in_Number : DIn := fun ds Q _ => ∃ (R : Nat) (w : List (Nat × Nat)), ds = [.tup (w.map pairD)] ∧ WF R w ∧ Q ["powers"] [.tup (w.map pairD)]
def sp_Number : DSp := spMake "Number" (inStar 0 in_Number)
def sp_number_with : DSp := fun ds Q _ => ∃ (R : Nat) (bs es : List Nat), ds = [.tup (intsD bs), .lst (intsD es)] ∧ ROk R ∧ BOk R bs ∧ es.length = bs.length ∧ ∀ w, WF R w → val w = pp bs es → Q (num w)
/-- an operation on values -/
def spOp (f : Nat → Nat → Nat) (ok : Nat → Nat → Prop) : DSp := fun ds Q _ => ∃ (R : Nat) (w1 w2 : List (Nat × Nat)), ds = [num w1, num w2] ∧ ROk R ∧ WF R w1 ∧ WF R w2 ∧ ok (val w1) (val w2) ∧ ∀ w, WF R w → val w = f (val w1) (val w2) → Q (num w)
def sp_mul : DSp := spOp (· * ·) fun _ _ => True
def sp_and : DSp := spOp Nat.gcd fun _ _ => True
def sp_or : DSp := spOp Nat.lcm fun _ _ => True
def sp_floordiv : DSp := spOp (· / ·) fun a b => b ∣ a
def spTest (f : Nat → Nat → Bool) : DSp := fun ds Q _ => ∃ (R : Nat) (w1 w2 : List (Nat × Nat)), ds = [num w1, num w2] ∧ ROk R ∧ WF R w1 ∧ WF R w2 ∧ Q (.bl (f (val w1) (val w2)))
def sp_eq : DSp := spTest fun a b => decide (a = b)
def sp_divides : DSp := spTest fun a b => decide (a ∣ b)
def sp_is_integer : DSp := fun ds Q _ => (∃ i lo : Int, ds = [.int i, .int lo, .non] ∧ Q (.bl (decide (lo ≤ i)))) ∨ ∃ i lo hi : Int, ds = [.int i, .int lo, .int hi] ∧ Q (.bl (decide (lo ≤ i ∧ i ≤ hi)))
def sp_wrong_pair : DSp := fun ds Q _ => ∃ (R : Nat) (w : List (Nat × Nat)), ds = [.tup (w.map pairD)] ∧ WF R w ∧ Q .non
def sp_check_number : DSp := fun ds Q _ => ∃ w : List (Nat × Nat), ds = [num w] ∧ Q .non
def sp_check_numbers : DSp := fun ds Q _ => ∃ (ws : List (List (Nat × Nat))) (k : Int), ds = [.tup (ws.map num), .int k] ∧ ws.length ≤ 1000 ∧ k ≤ ws.length ∧ Q .non
def sp_power : DSp := fun ds Q _ => ∃ (R : Nat) (w : List (Nat × Nat)) (k : Nat), ds = [num w, .int k] ∧ ROk R ∧ WF R w ∧ k < 2 ^ 64 ∧ ∀ w', WF R w' → val w' = val w ^ k → Q (num w')
def foldV (f : Nat → Nat → Nat) : Nat → List (List (Nat × Nat)) → Nat
  | a, [] => a
  | a, w :: ws => foldV f (f a (val w)) ws
def sp_shareB : DSp := fun ds Q _ => ∃ (R : Nat) (w : List (Nat × Nat)) (ws : List (List (Nat × Nat))), ds = [.tup ((w :: ws).map num)] ∧ ROk R ∧ WF R w ∧ (∀ x ∈ ws, WF R x) ∧ ws.length ≤ 999 ∧ ∀ w', WF R w' → val w' = foldV Nat.gcd (val w) ws → Q (num w')
def sp_meetB : DSp := fun ds Q _ => ∃ (R : Nat) (ws : List (List (Nat × Nat))), ds = [.tup (ws.map num)] ∧ ROk R ∧ (∀ x ∈ ws, WF R x) ∧ ws.length ≤ 999 ∧ ∀ w', WF R w' → val w' = foldV Nat.lcm 1 ws → Q (num w')
def sp_share : DSp := spStar 0 sp_shareB
def sp_meet : DSp := spStar 0 sp_meetB
end DL
set_option Elab.async false
set_option linter.all false
set_option maxRecDepth 100000
set_option maxHeartbeats 4000000
/-! RA: readings of the defs over naturals (printed by gen.py) -/
namespace DL
open PySem PySem.Spec L2
/-- common_divisor: slots one, other -/
def rd_common_divisor : TDS := (dSeq (dWhile (dTest (dOp fNe (oSlot 1) (oVal (dC (.int 0))))) (dPair (aCons (dVar 1) (aCons (dOp fMod (oSlot 0) (oSlot 1)) aNil)) 0 1)) (dRet (dVar 0)))
/-- refined: slots integers, waiting, found, item, index, other, common, piece -/
def rd_refined : TDS := (dSeq (dPair (aCons (dNew (fLc (iSeqD (dVar 0)) [3] (gN 3) (dTest (dOp fGt (oSlot 3) (oVal (dC (.int 1))))) (dVar 3))) (aCons (dNew (fLst aNil)) aNil)) 1 2) (dSeq (dWhile (dTest (dOp fNe (oSlot 1) (oVal (dNew (fLst aNil))))) (dSeq (dAsg (dVar 1) (gStarD 1 (gConsD (gN 3) (gConsD (gN 1) gNilD)))) (dForE (iEnumD (aCons (dVar 2) aNil)) (gTupD 2 (gConsD (gN 4) (gConsD (gN 5) gNilD))) (dSeq (dAsg (dApp sp_common_divisor (aCons (dVar 3) (aCons (dVar 5) aNil))) (gN 6)) (dIfS (dTest (dOp fGt (oSlot 6) (oVal (dC (.int 1))))) (dSeq (dAsg (dNew (fCat (oSlot 1) (oVal (dNew (fLc (iSeqD (dTup (aCons (dVar 6) (aCons (dOp fFdiv (oSlot 3) (oSlot 6)) (aCons (dOp fFdiv (oSlot 5) (oSlot 6)) aNil))))) [7] (gN 7) (dTest (dOp fGt (oSlot 7) (oVal (dC (.int 1))))) (dVar 7)))))) (gN 1)) (dSeq (dAsg (dNew (fCat (oVal (dNew (fSl (oSlot 2) dNoPart (dPart (oSlot 4))))) (oVal (dNew (fSl (oSlot 2) (dPart (oVal (dOp fAdd (oSlot 4) (oVal (dC (.int 1)))))) dNoPart))))) (gN 2)) dBreak)) dNext)) (dAsg (dNew (fCat (oSlot 2) (oVal (dNew (fLst (aCons (dVar 3) aNil)))))) (gN 2))))) (dRet (dCB fTupleB (aoCons (oVal (dNew (fCB fSorted (aoCons (oSlot 2) aoNil)))) aoNil)))))
/-- times_in: slots value, item, found -/
def rd_times_in : TDS := (dSeq (dAsg (dC (.int 0)) (gN 2)) (dSeq (dWhile (dTest (dOp fEq (oVal (dOp fMod (oSlot 0) (oSlot 1))) (oVal (dC (.int 0))))) (dPair (aCons (dOp fFdiv (oSlot 0) (oSlot 1)) (aCons (dOp fAdd (oSlot 2) (oVal (dC (.int 1)))) aNil)) 0 2)) (dRet (dVar 2))))
/-- exponent_over: slots powers, item, base, exponent -/
def rd_exponent_over : TDS := (dRet (dCB fSumB (aoCons (oVal (dNew (fLc (iSeqD (dVar 0)) [2, 3] (gTupD 2 (gConsD (gN 2) (gConsD (gN 3) gNilD))) dYes (dOp fMul (oSlot 3) (oVal (dApp sp_times_in (aCons (dVar 2) (aCons (dVar 1) aNil)))))))) aoNil)))
/-- exponents_over: slots powers, base, item -/
def rd_exponents_over : TDS := (dRet (dCB fTupleB (aoCons (oVal (dNew (fLc (iSeqD (dVar 1)) [2] (gN 2) dYes (dApp sp_exponent_over (aCons (dVar 0) (aCons (dVar 2) aNil)))))) aoNil)))
/-- is_integer: slots value, low, high -/
def rd_is_integer (K : PySem.W.Frag) (ca : Str → Addr) : TDS := (dSeq (dIfS (dOr (dNot (dTru (oVal (dCB (fIsi K ca) (aoCons (oSlot 0) (aoCons (oVal (dC (.ty "int"))) aoNil)))))) (dOr (dTru (oVal (dCB (fIsi K ca) (aoCons (oSlot 0) (aoCons (oVal (dC (.ty "bool"))) aoNil))))) (dTest (dOp fLt (oSlot 0) (oSlot 1))))) (dRet (dC (.bl false))) dNext) (dRet (dOrV (dOp fIs (oSlot 2) (oVal (dC .non))) (dOp fLe (oSlot 0) (oSlot 2)))))
/-- wrong_pair: slots powers, index, pair -/
def rd_wrong_pair (K : PySem.W.Frag) (ca : Str → Addr) : TDS := (dSeq (dFor (iEnumD (aCons (dVar 0) aNil)) (gTupD 2 (gConsD (gN 1) (gConsD (gN 2) gNilD))) (dSeq (dIfS (dOr (dNot (dTru (oVal (dCB (fIsi K ca) (aoCons (oSlot 2) (aoCons (oVal (dC (.ty "tuple"))) aoNil)))))) (dTest (dOp fNe (oVal (dCB fLen (aoCons (oSlot 2) aoNil))) (oVal (dC (.int 2)))))) (dRet (dVar 1)) dNext) (dIfS (dOr (dNot (dTru (oVal (dApp sp_is_integer (aCons (dOp fIx (oSlot 2) (oVal (dC (.int 0)))) (aCons (dC (.int 2)) (aCons (dC (.int 100000000000000000000)) aNil))))))) (dNot (dTru (oVal (dApp sp_is_integer (aCons (dOp fIx (oSlot 2) (oVal (dC (.int 1)))) (aCons (dC (.int 1)) (aCons (dC .non) aNil)))))))) (dRet (dVar 1)) dNext))) (dRet (dC .non)))
/-- common_base: slots writings, powers, base, exponent -/
def rd_common_base : TDS := (dRet (dApp sp_refined (aCons (dNew (fLc2 (iSeqD (dVar 0)) [1, 2, 3] (gN 1) dYes (iSeqD (dVar 1)) [2, 3] (gTupD 2 (gConsD (gN 2) (gConsD (gN 3) gNilD))) dYes (dVar 2))) aNil)))
/-- compared: slots one, other, base -/
def rd_compared : TDS := (dSeq (dAsg (dApp sp_common_base (aCons (dFld "Number" "powers" (dVar 0)) (aCons (dFld "Number" "powers" (dVar 1)) aNil))) (gN 2)) (dRet (dTup (aCons (dVar 2) (aCons (dNew (fListZip (aCons (dApp sp_exponents_over (aCons (dFld "Number" "powers" (dVar 0)) (aCons (dVar 2) aNil))) (aCons (dApp sp_exponents_over (aCons (dFld "Number" "powers" (dVar 1)) (aCons (dVar 2) aNil))) aNil)))) aNil)))))
/-- number_with: slots base, exponents, pairs, item, exponent -/
def rd_number_with : TDS := (dSeq (dAsg (dNew (fLc (iZipD (aCons (dVar 0) (aCons (dVar 1) aNil))) [3, 4] (gTupD 2 (gConsD (gN 3) (gConsD (gN 4) gNilD))) (dTest (dOp fGt (oSlot 4) (oVal (dC (.int 0))))) (dTup (aCons (dVar 3) (aCons (dVar 4) aNil))))) (gN 2)) (dRet (dAppS sp_Number (oSlot 2))))
/-- Number.__init__: slots self, powers, index -/
def rd_Number_init : TDS := (dSeq (dAsg (dApp sp_wrong_pair (aCons (dVar 1) aNil)) (gN 2)) (dIfS (dTest (dOp fIsNot (oSlot 2) (oVal (dC .non)))) dNever dNext))
/-- Number.__eq__: slots self, other, base, pairs, mine, yours -/
def rd_Number_eq (K : PySem.W.Frag) (ca : Str → Addr) : TDS := (dSeq (dIfS (dNot (dTru (oVal (dCB (fIsi K ca) (aoCons (oSlot 1) (aoCons (oVal (dC (.cls "Number"))) aoNil)))))) (dRet (dC (.bl false))) dNext) (dSeq (dAsg (dApp sp_compared (aCons (dVar 0) (aCons (dVar 1) aNil))) (gTupD 2 (gConsD (gN 2) (gConsD (gN 3) gNilD)))) (dRet (dOp fEq (oVal (dNew (fLc (iSeqD (dVar 3)) [4, 5] (gTupD 2 (gConsD (gN 4) (gConsD (gN 5) gNilD))) (dTest (dOp fNe (oSlot 4) (oSlot 5))) (dVar 4)))) (oVal (dNew (fLst aNil)))))))
/-- Number.__mul__: slots self, other, base, pairs, mine, yours -/
def rd_Number_mul : TDS := (dSeq (dAsg (dApp sp_compared (aCons (dVar 0) (aCons (dVar 1) aNil))) (gTupD 2 (gConsD (gN 2) (gConsD (gN 3) gNilD)))) (dRet (dApp sp_number_with (aCons (dVar 2) (aCons (dNew (fLc (iSeqD (dVar 3)) [4, 5] (gTupD 2 (gConsD (gN 4) (gConsD (gN 5) gNilD))) dYes (dOp fAdd (oSlot 4) (oSlot 5)))) aNil)))))
/-- Number.__floordiv__: slots self, other, base, pairs, mine, yours -/
def rd_Number_floordiv : TDS := (dSeq (dAsg (dApp sp_compared (aCons (dVar 0) (aCons (dVar 1) aNil))) (gTupD 2 (gConsD (gN 2) (gConsD (gN 3) gNilD)))) (dSeq (dIfS (dTest (dOp fNe (oVal (dNew (fLc (iSeqD (dVar 3)) [4, 5] (gTupD 2 (gConsD (gN 4) (gConsD (gN 5) gNilD))) (dTest (dOp fLt (oSlot 4) (oSlot 5))) (dVar 4)))) (oVal (dNew (fLst aNil))))) dNever dNext) (dRet (dApp sp_number_with (aCons (dVar 2) (aCons (dNew (fLc (iSeqD (dVar 3)) [4, 5] (gTupD 2 (gConsD (gN 4) (gConsD (gN 5) gNilD))) dYes (dOp fSub (oSlot 4) (oSlot 5)))) aNil))))))
/-- Number.__and__: slots self, other, base, pairs, mine, yours -/
def rd_Number_and : TDS := (dSeq (dAsg (dApp sp_compared (aCons (dVar 0) (aCons (dVar 1) aNil))) (gTupD 2 (gConsD (gN 2) (gConsD (gN 3) gNilD)))) (dRet (dApp sp_number_with (aCons (dVar 2) (aCons (dNew (fLc (iSeqD (dVar 3)) [4, 5] (gTupD 2 (gConsD (gN 4) (gConsD (gN 5) gNilD))) dYes (dIf (dTest (dOp fLt (oSlot 4) (oSlot 5))) (dVar 4) (dVar 5)))) aNil)))))
/-- Number.__or__: slots self, other, base, pairs, mine, yours -/
def rd_Number_or : TDS := (dSeq (dAsg (dApp sp_compared (aCons (dVar 0) (aCons (dVar 1) aNil))) (gTupD 2 (gConsD (gN 2) (gConsD (gN 3) gNilD)))) (dRet (dApp sp_number_with (aCons (dVar 2) (aCons (dNew (fLc (iSeqD (dVar 3)) [4, 5] (gTupD 2 (gConsD (gN 4) (gConsD (gN 5) gNilD))) dYes (dIf (dTest (dOp fLt (oSlot 4) (oSlot 5))) (dVar 5) (dVar 4)))) aNil)))))
/-- check_number: slots number -/
def rd_check_number (K : PySem.W.Frag) (ca : Str → Addr) : TDS := (dIfS (dNot (dTru (oVal (dCB (fIsi K ca) (aoCons (oSlot 0) (aoCons (oVal (dC (.cls "Number"))) aoNil)))))) dNever dNext)
/-- check_numbers: slots numbers, least, index, number -/
def rd_check_numbers (K : PySem.W.Frag) (ca : Str → Addr) : TDS := (dSeq (dIfS (dTest (dOp fLt (oVal (dCB fLen (aoCons (oSlot 0) aoNil))) (oSlot 1))) dNever dNext) (dFor (iEnumD (aCons (dVar 0) aNil)) (gTupD 2 (gConsD (gN 2) (gConsD (gN 3) gNilD))) (dIfS (dNot (dTru (oVal (dCB (fIsi K ca) (aoCons (oSlot 3) (aoCons (oVal (dC (.cls "Number"))) aoNil)))))) dNever dNext)))
/-- divides: slots number, other, base, pairs, mine, yours -/
def rd_divides : TDS := (dSeq (dExpr (dApp sp_check_number (aCons (dVar 0) aNil))) (dSeq (dExpr (dApp sp_check_number (aCons (dVar 1) aNil))) (dSeq (dAsg (dApp sp_compared (aCons (dVar 0) (aCons (dVar 1) aNil))) (gTupD 2 (gConsD (gN 2) (gConsD (gN 3) gNilD)))) (dRet (dOp fEq (oVal (dNew (fLc (iSeqD (dVar 3)) [4, 5] (gTupD 2 (gConsD (gN 4) (gConsD (gN 5) gNilD))) (dTest (dOp fGt (oSlot 4) (oSlot 5))) (dVar 4)))) (oVal (dNew (fLst aNil))))))))
/-- power: slots number, exponent, pairs, base, times -/
def rd_power : TDS := (dSeq (dExpr (dApp sp_check_number (aCons (dVar 0) aNil))) (dSeq (dIfS (dNot (dTru (oVal (dApp sp_is_integer (aCons (dVar 1) (aCons (dC (.int 0)) (aCons (dC .non) aNil))))))) dNever dNext) (dSeq (dAsg (dNew (fLc (iSeqD (dFld "Number" "powers" (dVar 0))) [3, 4] (gTupD 2 (gConsD (gN 3) (gConsD (gN 4) gNilD))) (dTest (dOp fGt (oSlot 1) (oVal (dC (.int 0))))) (dTup (aCons (dVar 3) (aCons (dOp fMul (oSlot 4) (oSlot 1)) aNil))))) (gN 2)) (dRet (dAppS sp_Number (oSlot 2))))))
/-- share: slots numbers, found, others, number -/
def rd_share : TDS := (dSeq (dExpr (dApp sp_check_numbers (aCons (dVar 0) (aCons (dC (.int 1)) aNil)))) (dSeq (dAsg (dVar 0) (gStarD 1 (gConsD (gN 1) (gConsD (gN 2) gNilD)))) (dSeq (dFor (iSeqD (dVar 2)) (gN 3) (dAsg (dOwnOp "Number" sp_and (oSlot 1) (oSlot 3)) (gN 1))) (dRet (dVar 1)))))
/-- meet: slots numbers, found, number -/
def rd_meet : TDS := (dSeq (dExpr (dApp sp_check_numbers (aCons (dVar 0) (aCons (dC (.int 0)) aNil)))) (dSeq (dAsg (dApp0 sp_Number) (gN 1)) (dSeq (dFor (iSeqD (dVar 0)) (gN 2) (dAsg (dOwnOp "Number" sp_or (oSlot 1) (oSlot 2)) (gN 1))) (dRet (dVar 1)))))
end DL
set_option Elab.async false
set_option linter.all false
set_option maxRecDepth 100000
set_option maxHeartbeats 4000000
/-! PB: plain laws: refining, exponents -/
namespace DL
open PySem PySem.Spec L2 DM

set_option exponentiation.threshold 10000
theorem small_int {n : Nat} (h : n ≤ 10 ^ 20) : (n : Int).natAbs < 2 ^ 8999 := by
  rw [Int.natAbs_natCast]
  exact Nat.lt_of_le_of_lt h (Nat.lt_of_lt_of_le (by decide : 10 ^ 20 < 2 ^ 67) (Nat.pow_le_pow_right (by decide) (by decide)))
theorem does_common_divisor : Does 2 rd_common_divisor sp_common_divisor := by
  rintro ds Q ⟨a, b, rfl, hQ⟩
  refine ⟨fun m e => ∃ x y : Nat, e = [.sh (.int x), .sh (.int y)] ∧ Nat.gcd x y = Nat.gcd a b ∧ m = y, ⟨b, a, b, rfl, rfl, rfl⟩, ?_⟩
  rintro m _ ⟨x, y, rfl, hg, hmy⟩
  refine ⟨_, _, _, rfl, rfl, fNe_int _ _, _, rfl, ?_⟩
  by_cases hy : y = 0
  · subst hy
    show Q _
    rw [Nat.gcd_zero_right] at hg
    rw [hg]
    exact hQ
  · have h1 : (!((y : Int) == 0)) = true := by simp; omega
    rw [h1]
    have hm : (x : Int) % (y : Int) = ((x % y : Nat) : Int) := by simp
    refine ⟨_, _, _, rfl, rfl, fMod_pos (by omega), len_line rfl, rfl, rfl, x % y, by rw [hmy]; exact Nat.mod_lt _ (by omega), y, x % y, ?_, ?_, rfl⟩
    · rw [hm] <;> rfl
    · rw [← hg, Nat.gcd_comm x y, Nat.gcd_rec y x, Nat.gcd_comm]
theorem does_times_in : Does 3 rd_times_in sp_times_in := by
  rintro ds Q ⟨x, b, k, m, rfl, hx, hbm, hm0, hb, hbl, hQ⟩
  refine ⟨fun n e => ∃ j y : Nat, e = [.sh (.int y), .sh (.int b), .sh (.int j)] ∧ j ≤ k ∧ y = b ^ (k - j) * m ∧ n = k - j, ⟨k, 0, x, rfl, Nat.zero_le _, by rw [Nat.sub_zero]; exact hx, rfl⟩, ?_⟩
  rintro n _ ⟨j, y, rfl, hj, hy, hn⟩
  refine ⟨_, _, _, rfl, rfl, fMod_pos (by omega), _, _, _, rfl, rfl, fEq_int _ _, _, rfl, ?_⟩
  have hm : (y : Int) % (b : Int) = ((y % b : Nat) : Int) := by simp
  by_cases hjk : j = k
  · have hy' : y = m := by rw [hy, hjk, Nat.sub_self, Nat.pow_zero, Nat.one_mul]
    have h0 : ((y : Int) % (b : Int) == 0) = false := by
      rw [hm, hy']
      have : m % b ≠ 0 := fun h => hbm (Nat.dvd_of_mod_eq_zero h)
      simp
      omega
    rw [h0]
    show Q _
    rw [hjk]
    exact hQ
  · have hd : y = b * (b ^ (k - (j + 1)) * m) := by
      have h1 : k - j = (k - (j + 1)) + 1 := by omega
      rw [hy, h1, Nat.pow_succ]
      ac_rfl
    have h0 : ((y : Int) % (b : Int) == 0) = true := by
      rw [hm, hd, Nat.mul_mod_right]
      rfl
    rw [h0]
    have hdv : (y : Int) / (b : Int) = ((b ^ (k - (j + 1)) * m : Nat) : Int) := by
      have : ((y / b : Nat) : Int) = (y : Int) / (b : Int) := by simp
      rw [← this, hd, Nat.mul_div_cancel_left _ (by omega)]
    refine ⟨_, _, _, rfl, rfl, fFdiv_pos (by omega) (small_int hbl), _, _, _, rfl, rfl, rfl, len_line rfl, rfl, rfl, k - (j + 1), by omega, j + 1, _, ?_, by omega, rfl, rfl⟩
    rw [hdv] <;> rfl
/-- the items of pairs -/
theorem turn_pair {vs : List Nat} {tt : TDT} {te : TD} {e : DEnv} {P : D → Option D → Prop} {i j : Nat} {p : Nat × Nat}
    (h : ∀ K1 : Option D → DEnv → Prop, (∀ r, P (pairD p) r → K1 r e) → tt ((e.set i (.sh (.int p.1))).set j (.sh (.int p.2))) fun b e2 => if b = true then te e2 fun y e3 => K1 (some y) (wipeE e3 vs) else K1 none (wipeE e2 vs)) :
    Turn1 vs (gTupD 2 (gConsD (gN i) (gConsD (gN j) gNilD))) tt te e P (pairD p) := fun K1 hK => ⟨rfl, rfl, h K1 hK⟩
theorem pairs_map {f : Nat × Nat → Option D} {F : D → Option D} : ∀ {w : List (Nat × Nat)}, (∀ p ∈ w, F (pairD p) = f p) → (w.map pairD).filterMap F = w.filterMap f
  | [], _ => rfl
  | p :: w, h => by
    rw [List.map_cons, List.filterMap_cons, List.filterMap_cons, h p List.mem_cons_self, pairs_map fun q hq => h q (List.mem_cons_of_mem _ hq)]
/-- a comprehension over pairs -/
theorem lcL_pairs {C : DEnv → Prop} {vs : List Nat} {tt : TDT} {te : TD} {e : DEnv} {i j : Nat} {f : Nat × Nat → Option D} (hC : C e) : ∀ {w : List (Nat × Nat)} {acc : List D} {Q : List D → DEnv → Prop},
    (∀ p ∈ w, ∀ K1 : Option D → DEnv → Prop, K1 (f p) e → tt ((e.set i (.sh (.int p.1))).set j (.sh (.int p.2))) fun b e2 => if b = true then te e2 fun y e3 => K1 (some y) (wipeE e3 vs) else K1 none (wipeE e2 vs)) →
    Q (acc ++ w.filterMap f) e → lcL C vs (gTupD 2 (gConsD (gN i) (gConsD (gN j) gNilD))) tt te Q (w.map pairD) acc e
  | [], acc, Q, _, hQ => ⟨hC, by simpa using hQ⟩
  | p :: w, acc, Q, ht, hQ => ⟨hC, rfl, rfl, ht p List.mem_cons_self (fun o e' => match o with
      | some y => lcL C vs (gTupD 2 (gConsD (gN i) (gConsD (gN j) gNilD))) tt te Q (w.map pairD) (acc ++ [y]) e'
      | none => lcL C vs (gTupD 2 (gConsD (gN i) (gConsD (gN j) gNilD))) tt te Q (w.map pairD) acc e') (by
    cases hf : f p with
    | some y => exact lcL_pairs hC (fun q hq => ht q (List.mem_cons_of_mem _ hq)) (by rw [List.filterMap_cons, hf] at hQ; simpa using hQ)
    | none => exact lcL_pairs hC (fun q hq => ht q (List.mem_cons_of_mem _ hq)) (by rw [List.filterMap_cons, hf] at hQ; simpa using hQ))⟩
/-- .. over ints -/
theorem lcL_ints {C : DEnv → Prop} {vs : List Nat} {tt : TDT} {te : TD} {e : DEnv} {i : Nat} {f : Nat → Option D} (hC : C e) : ∀ {w : List Nat} {acc : List D} {Q : List D → DEnv → Prop},
    (∀ p ∈ w, ∀ K1 : Option D → DEnv → Prop, K1 (f p) e → tt (e.set i (.sh (.int p))) fun b e2 => if b = true then te e2 fun y e3 => K1 (some y) (wipeE e3 vs) else K1 none (wipeE e2 vs)) →
    Q (acc ++ w.filterMap f) e → lcL C vs (gN i) tt te Q (intsD w) acc e
  | [], acc, Q, _, hQ => ⟨hC, by simpa using hQ⟩
  | p :: w, acc, Q, ht, hQ => ⟨hC, ht p List.mem_cons_self (fun o e' => match o with
      | some y => lcL C vs (gN i) tt te Q (intsD w) (acc ++ [y]) e'
      | none => lcL C vs (gN i) tt te Q (intsD w) acc e') (by
    cases hf : f p with
    | some y => exact lcL_ints hC (fun q hq => ht q (List.mem_cons_of_mem _ hq)) (by rw [List.filterMap_cons, hf] at hQ; simpa using hQ)
    | none => exact lcL_ints hC (fun q hq => ht q (List.mem_cons_of_mem _ hq)) (by rw [List.filterMap_cons, hf] at hQ; simpa using hQ))⟩
theorem le_line {n : Nat} (h : n ≤ 10000000) : n ≤ sizeLine := by
  rw [sizeLine_eq]
  omega
theorem sum_nat (ns : List Nat) : (ns.map fun n : Nat => (n : Int)).sum = ((ns.sum : Nat) : Int) := by
  induction ns with
  | nil => rfl
  | cons n ns ih => simp [ih]
theorem intsOf_nat (ns : List Nat) : intsOf (intsD ns) = some (ns.map fun n : Nat => (n : Int)) := by
  have h : intsD ns = (ns.map fun n : Nat => (n : Int)).map D.int := by
    unfold intsD
    rw [List.map_map]
    rfl
  rw [h, intsOf_map]
theorem fm_some {α β : Type} (f : α → β) (l : List α) : l.filterMap (fun x => some (f x)) = l.map f := by
  induction l with
  | nil => rfl
  | cons a l ih => rw [List.filterMap_cons, ih] <;> rfl
theorem exp_le {b k m x : Nat} (hb : 1 < b) (hm : 0 < m) (hx : x = b ^ k * m) (hl : x ≤ 10 ^ 20) : k < 67 := by
  have h1 : 2 ^ k ≤ b ^ k := Nat.pow_le_pow_left hb k
  have h2 : b ^ k ≤ x := by rw [hx]; exact Nat.le_mul_of_pos_right _ hm
  have h3 : 2 ^ k < 2 ^ 67 := Nat.lt_of_le_of_lt (Nat.le_trans h1 (Nat.le_trans h2 hl)) (by decide)
  exact (Nat.pow_lt_pow_iff_right (by decide)).mp h3
theorem does_exponent_over : Does 4 rd_exponent_over sp_exponent_over := by
  rintro ds Q ⟨w, b, ex, rfl, hb, hbl, hwl, hw, hQ⟩
  refine ⟨w.map pairD, rfl, le_line (by rw [List.length_map]; omega), ?_⟩
  refine lcL_pairs (f := fun p => some (.int ((p.2 * ex p.1 : Nat) : Int))) trivial (fun p hp K1 hK => ?_) ?_
  · obtain ⟨hl, m, hm, hnd, hm0⟩ := hw p hp
    have hk := exp_le hb hm0 hm hl
    refine ⟨p.1, b, ex p.1, m, rfl, hm, hnd, hm0, hb, hbl, _, _, _, rfl, rfl, fMul_small (.inr (by omega)), ?_⟩
    have e1 : (p.2 : Int) * (ex p.1 : Int) = ((p.2 * ex p.1 : Nat) : Int) := by simp
    rw [e1]
    exact hK
  · have e1 : w.filterMap (fun p => some (D.int ((p.2 * ex p.1 : Nat) : Int))) = intsD (w.map fun p => p.2 * ex p.1) := by
      rw [fm_some]
      unfold intsD
      rw [List.map_map]
      rfl
    rw [List.nil_append, e1]
    refine ⟨_, _, rfl, by show (intsOf _).map _ = _; rw [intsOf_nat] <;> rfl, ?_⟩
    show Q (.int ((w.map fun p => p.2 * ex p.1).map fun n : Nat => (n : Int)).sum)
    rw [sum_nat]
    exact hQ
/-- the exponents of a writing over a base: one row, and it makes the value -/
theorem exps_ex {R : Nat} {bs : List Nat} (hb : BOk R bs) : ∀ {w : List (Nat × Nat)}, (∀ p ∈ w, Mon bs p.1) → ∃ ex : Nat → Nat → Nat, (∀ p ∈ w, ∀ b ∈ bs, ∃ m, p.1 = b ^ ex b p.1 * m ∧ ¬ b ∣ m ∧ 0 < m) ∧ pp bs (bs.map fun b => (w.map fun p => p.2 * ex b p.1).sum) = val w := by
  intro w hw
  -- the exponent of an item in a number that the base makes
  have hx : ∀ x, Mon bs x → ∃ es : List Nat, es.length = bs.length ∧ pp bs es = x := fun x h => h.pp
  let es : Nat → List Nat := fun x => Classical.epsilon fun l : List Nat => l.length = bs.length ∧ pp bs l = x
  have hes : ∀ x, Mon bs x → (es x).length = bs.length ∧ pp bs (es x) = x := fun x h => Classical.epsilon_spec (hx x h)
  let ex : Nat → Nat → Nat := fun b x => ((es x)[bs.idxOf b]?).getD 0
  have key : ∀ (i : Nat) (hi : i < bs.length) (x : Nat), Mon bs x → ∃ h : i < (es x).length, ex bs[i] x = (es x)[i] := fun i hi x h => by
    have hl := (hes x h).1
    have hid : bs.idxOf bs[i] = i := by
      have hnd : bs.Nodup := hb.pc.co.imp_of_mem fun {a c} ha hc' hac hac' => by
        subst hac'
        have h1 : Nat.gcd a a = 1 := hac
        rw [Nat.gcd_self] at h1
        have := hb.pc.gt a ha
        omega
      exact List.Nodup.idxOf_getElem hnd i hi
    refine ⟨by omega, ?_⟩
    show ((es x)[bs.idxOf bs[i]]?).getD 0 = _
    rw [hid, List.getElem?_eq_getElem (by omega)]
    rfl
  have hmap : ∀ x, Mon bs x → bs.map (fun b => ex b x) = es x := fun x h => by
    apply List.ext_getElem
    · rw [List.length_map, (hes x h).1]
    · intro i h1 h2
      rw [List.getElem_map]
      obtain ⟨_, e⟩ := key i (by rw [List.length_map] at h1; exact h1) x h
      exact e
  refine ⟨ex, fun p hp b hbm => ?_, ?_⟩
  · obtain ⟨i, hi, e⟩ := List.getElem_of_mem hbm
    subst e
    obtain ⟨h1, e⟩ := key i hi p.1 (hw p hp)
    obtain ⟨m, e1, e2, e3⟩ := pp_split hb.pc (hes p.1 (hw p hp)).1 i hi h1
    exact ⟨m, by rw [e, ← e1, (hes p.1 (hw p hp)).2], e2, e3⟩
  · have gen : ∀ w : List (Nat × Nat), (∀ p ∈ w, Mon bs p.1) → pp bs (bs.map fun b => (w.map fun p => p.2 * ex b p.1).sum) = val w := by
      intro w
      induction w with
      | nil =>
        intro _
        have : (bs.map fun b => (([] : List (Nat × Nat)).map fun p => p.2 * ex b p.1).sum) = List.replicate bs.length 0 := by
          rw [List.eq_replicate_iff]
          simp
        rw [this, pp_zeros] <;> rfl
      | cons p w ih =>
        intro h
        have e1 : (bs.map fun b => ((p :: w).map fun p => p.2 * ex b p.1).sum) = List.zipWith (· + ·) ((bs.map fun b => ex b p.1).map (· * p.2)) (bs.map fun b => (w.map fun p => p.2 * ex b p.1).sum) := by
          apply List.ext_getElem
          · simp
          · intro i h1 h2
            simp [Nat.mul_comm]
        rw [e1, pp_add (by simp) (by simp), pp_pow, hmap p.1 (h p List.mem_cons_self), (hes p.1 (h p List.mem_cons_self)).2, ih fun q hq => h q (List.mem_cons_of_mem _ hq)]
        rfl
    exact gen w hw
theorem does_exponents_over : Does 3 rd_exponents_over sp_exponents_over := by
  rintro ds Q ⟨R, w, bs, rfl, hR, hw, hb, hm, hQ⟩
  obtain ⟨ex, h1, h2⟩ := exps_ex hb hm
  refine ⟨intsD bs, rfl, le_line (by unfold intsD; rw [List.length_map]; have := hb.len hR; omega), ?_⟩
  refine lcL_ints (f := fun b => some (.int (((w.map fun p => p.2 * ex b p.1).sum : Nat) : Int))) trivial (fun b hbm K1 hK => ?_) ?_
  · refine ⟨w, b, fun x => ex b x, rfl, hb.pc.gt b hbm, (hb.ok b hbm).hi, hw.ln, fun p hp => ⟨(hw.ok p hp).1.hi, h1 p hp b hbm⟩, hK⟩
  · rw [List.nil_append, fm_some]
    refine ⟨_, _, rfl, rfl, ?_⟩
    have e1 : bs.map (fun b => D.int (((w.map fun p => p.2 * ex b p.1).sum : Nat) : Int)) = intsD (bs.map fun b => (w.map fun p => p.2 * ex b p.1).sum) := by
      unfold intsD
      rw [List.map_map]
      rfl
    show Q (.tup (bs.map fun b => D.int (((w.map fun p => p.2 * ex b p.1).sum : Nat) : Int)))
    rw [e1]
    exact hQ _ (by simp) h2
end DL
set_option Elab.async false
set_option linter.all false
set_option maxRecDepth 100000
set_option maxHeartbeats 4000000
/-! PC1: plain laws: refined -/
namespace DL
open PySem PySem.Spec L2 DM

theorem toPy_ints : ∀ (ns : List Nat), toPyL (intsD ns) = some (ns.map fun n : Nat => PyData.int n)
  | [] => rfl
  | n :: ns => by
    show (match toPy (.int n), toPyL (intsD ns) with
      | some x, some xs => some (x :: xs)
      | _, _ => none) = _
    rw [toPy_ints ns] <;> rfl
theorem lay_ints : ∀ (ns : List Nat), PyData.canLayAll0 (ns.map fun n : Nat => PyData.int n) = true
  | [] => rfl
  | n :: ns => by
    show (PyData.canLay0 (.int n) && PyData.canLayAll0 (ns.map fun n : Nat => PyData.int n)) = true
    rw [lay_ints ns] <;> rfl
theorem dep_ints : ∀ (ns : List Nat), PyData.depthAll (ns.map fun n : Nat => PyData.int n) = 0
  | [] => by rw [List.map_nil, PyData.depthAll]
  | n :: ns => by rw [List.map_cons, PyData.depthAll, dep_ints ns, PyData.depth] <;> rfl
theorem shp_ints (ns : List Nat) : SeqAt.shaped (.list (ns.map fun n : Nat => PyData.int n)) = true := by
  unfold SeqAt.shaped
  rw [PyData.depth, dep_ints, PyData.canLay0, lay_ints] <;> rfl
theorem eqv_ints : ∀ (a b : List Nat), PyData.eqvAll (a.map fun n : Nat => PyData.int n) (b.map fun n : Nat => PyData.int n) = decide (a = b)
  | [], [] => by rw [List.map_nil, PyData.eqvAll] <;> rfl
  | [], b :: bs => by rw [List.map_nil, List.map_cons, PyData.eqvAll] <;> rfl
  | a :: as, [] => by rw [List.map_nil, List.map_cons, PyData.eqvAll] <;> rfl
  | a :: as, b :: bs => by
    rw [List.map_cons, List.map_cons, PyData.eqvAll, eqv_ints as bs, PyData.eqv]
    by_cases h : a = b
    · subst h
      by_cases h2 : as = bs <;> simp [h2]
    · have h3 : ((a : Int) == (b : Int)) = false := by
        simp
        omega
      rw [h3]
      simp [h]
theorem eqD_ints (a b : List Nat) : eqD (.lst (intsD a)) (.lst (intsD b)) = some (decide (a = b)) := by
  have h1 : ∀ ns : List Nat, toPy (.lst (intsD ns)) = some (.list (ns.map fun n : Nat => PyData.int n)) := fun ns => by
    show (toPyL (intsD ns)).map PyData.list = _
    rw [toPy_ints] <;> rfl
  unfold eqD
  rw [h1, h1]
  show (if SeqAt.shaped (.list (a.map fun n : Nat => PyData.int n)) = true ∧ SeqAt.shaped (.list (b.map fun n : Nat => PyData.int n)) = true then some (PyData.eqv (.list (a.map fun n : Nat => PyData.int n)) (.list (b.map fun n : Nat => PyData.int n))) else none) = _
  rw [if_pos ⟨shp_ints a, shp_ints b⟩, PyData.eqv, eqv_ints]
theorem fNe_ints (a b : List Nat) : fNe (.lst (intsD a)) (.lst (intsD b)) = some (.bl (!decide (a = b))) := by rw [fNe, eqD_ints] <;> rfl
theorem fEq_ints (a b : List Nat) : fEq (.lst (intsD a)) (.lst (intsD b)) = some (.bl (decide (a = b))) := by rw [fEq, eqD_ints] <;> rfl
/-! ### the step of refining -/
def lprod : List Nat → Nat
  | [] => 1
  | a :: as => a * lprod as
theorem lprod_app : ∀ (a b : List Nat), lprod (a ++ b) = lprod a * lprod b
  | [], b => (Nat.one_mul _).symm
  | a :: as, b => by
    show a * lprod (as ++ b) = a * lprod as * lprod b
    rw [lprod_app as b, Nat.mul_assoc]
theorem lprod_ge : ∀ {a : List Nat}, (∀ x ∈ a, 1 < x) → 2 ^ a.length ≤ lprod a
  | [], _ => Nat.le_refl _
  | a :: as, h => by
    show 2 ^ (as.length + 1) ≤ a * lprod as
    rw [Nat.pow_succ, Nat.mul_comm]
    exact Nat.mul_le_mul (h a List.mem_cons_self) (lprod_ge fun x hx => h x (List.mem_cons_of_mem _ hx))
theorem lprod_le {B : Nat} : ∀ {a : List Nat}, (∀ x ∈ a, x ≤ B) → lprod a ≤ B ^ a.length
  | [], _ => Nat.le_refl _
  | a :: as, h => by
    show a * lprod as ≤ B ^ (as.length + 1)
    rw [Nat.pow_succ, Nat.mul_comm (B ^ as.length)]
    exact Nat.mul_le_mul (h a List.mem_cons_self) (lprod_le fun x hx => h x (List.mem_cons_of_mem _ hx))
def big (x : Nat) : Bool := decide (1 < x)
theorem lprod_big : ∀ (a : List Nat), (∀ x ∈ a, 0 < x) → lprod (a.filter big) = lprod a
  | [], _ => rfl
  | a :: as, h => by
    have ih := lprod_big as fun x hx => h x (List.mem_cons_of_mem _ hx)
    have h0 := h a List.mem_cons_self
    by_cases h1 : 1 < a
    · rw [List.filter_cons_of_pos (by unfold big; simpa using h1)]
      show a * lprod (as.filter big) = a * lprod as
      rw [ih]
    · rw [List.filter_cons_of_neg (by unfold big; simpa using h1)]
      have : a = 1 := by omega
      show lprod (as.filter big) = a * lprod as
      rw [ih, this, Nat.one_mul]
/-- what stands through the loop: S, all that is left and found -/
structure RInv (xs wt fd : List Nat) : Prop where
  gt : ∀ s ∈ wt ++ fd, 1 < s
  co : fd.Pairwise Nat.Coprime
  mon : ∀ x ∈ xs, 1 < x → Mon (wt ++ fd) x
  dvd : ∀ s ∈ wt ++ fd, ∃ x ∈ xs, 1 < x ∧ s ∣ x
  lp : lprod (wt ++ fd) ≤ (10 ^ 20) ^ xs.length
theorem RInv.len {xs wt fd : List Nat} (h : RInv xs wt fd) (hx : xs.length ≤ 100000) : wt.length + fd.length ≤ 6700000 := by
  have h1 := lprod_ge h.gt
  rw [List.length_append] at h1
  have h2 : (10 ^ 20) ^ xs.length ≤ 2 ^ (67 * xs.length) := by
    rw [Nat.pow_mul]
    exact Nat.pow_le_pow_left (by decide) _
  have h3 : 2 ^ (wt.length + fd.length) ≤ 2 ^ (67 * xs.length) := Nat.le_trans h1 (Nat.le_trans h.lp h2)
  have := (Nat.pow_le_pow_iff_right (by decide : 1 < 2)).mp h3
  omega
theorem RInv.start {xs : List Nat} (hx : ∀ x ∈ xs, x ≤ 10 ^ 20) : RInv xs (xs.filter big) [] where
  gt := fun s hs => by
    rw [List.append_nil, List.mem_filter] at hs
    simpa [big] using hs.2
  co := .nil
  mon := fun x hx1 h1 => .self (by rw [List.append_nil, List.mem_filter]; exact ⟨hx1, by simpa [big] using h1⟩)
  dvd := fun s hs => by
    rw [List.append_nil, List.mem_filter] at hs
    exact ⟨s, hs.1, by simpa [big] using hs.2, Nat.dvd_refl s⟩
  lp := by
    rw [List.append_nil]
    have h1 : lprod (xs.filter big) ≤ (10 ^ 20) ^ (xs.filter big).length := lprod_le fun x hx1 => hx x (List.mem_filter.mp hx1).1
    exact Nat.le_trans h1 (Nat.pow_le_pow_right (by decide) (List.length_filter_le _ _))
theorem RInv.moved {xs wt fd : List Nat} {a : Nat} (h : RInv xs (a :: wt) fd) (hc : ∀ f ∈ fd, Nat.gcd a f ≤ 1) : RInv xs wt (fd ++ [a]) := by
  have hm : ∀ s, s ∈ wt ++ (fd ++ [a]) ↔ s ∈ (a :: wt) ++ fd := fun s => by simp [or_comm, or_assoc, or_left_comm]
  have ha : 1 < a := h.gt a (by simp)
  refine ⟨fun s hs => h.gt s ((hm s).mp hs), ?_, fun x hx h1 => (h.mon x hx h1).mono fun s hs => (hm s).mpr hs, fun s hs => h.dvd s ((hm s).mp hs), ?_⟩
  · rw [List.pairwise_append]
    refine ⟨h.co, List.pairwise_singleton _ _, fun f hf b hb => ?_⟩
    have e : b = a := by simpa using hb
    rw [e]
    have h1 := hc f hf
    have h2 : 0 < Nat.gcd a f := Nat.gcd_pos_of_pos_left _ (by omega)
    show Nat.gcd f a = 1
    rw [Nat.gcd_comm]
    omega
  · have e : lprod (wt ++ (fd ++ [a])) = lprod ((a :: wt) ++ fd) := by
      rw [lprod_app, lprod_app, lprod_app]
      show lprod wt * (lprod fd * (a * 1)) = a * lprod wt * lprod fd
      rw [Nat.mul_one]
      ac_rfl
    rw [e]
    exact h.lp
/-- the pieces of two numbers with a common divisor -/
def pieces (a o g : Nat) : List Nat := [g, a / g, o / g].filter big
theorem RInv.parted {xs wt f1 f2 : List Nat} {a o : Nat} (h : RInv xs (a :: wt) (f1 ++ o :: f2)) (hg : 1 < Nat.gcd a o) : RInv xs (wt ++ pieces a o (Nat.gcd a o)) (f1 ++ f2) ∧ lprod ((wt ++ pieces a o (Nat.gcd a o)) ++ (f1 ++ f2)) < lprod ((a :: wt) ++ (f1 ++ o :: f2)) := by
  have ha : 1 < a := h.gt a (by simp)
  have ho : 1 < o := h.gt o (by simp)
  generalize hgd : Nat.gcd a o = g at hg ⊢
  have d1 : g ∣ a := by rw [← hgd]; exact Nat.gcd_dvd_left a o
  have d2 : g ∣ o := by rw [← hgd]; exact Nat.gcd_dvd_right a o
  have e1 : g * (a / g) = a := Nat.mul_div_cancel' d1
  have e2 : g * (o / g) = o := Nat.mul_div_cancel' d2
  have p1 : 0 < a / g := Nat.pos_of_ne_zero fun z => by rw [z, Nat.mul_zero] at e1; omega
  have p2 : 0 < o / g := Nat.pos_of_ne_zero fun z => by rw [z, Nat.mul_zero] at e2; omega
  have hpc : lprod (pieces a o g) = g * (a / g) * (o / g) := by
    unfold pieces
    rw [lprod_big _ (fun x hx => by
      have : x = g ∨ x = a / g ∨ x = o / g := by simpa using hx
      omega)]
    show g * (a / g * (o / g * 1)) = _
    rw [Nat.mul_one, Nat.mul_assoc]
  have hmem : ∀ x, x ∈ pieces a o g → 1 < x ∧ (x ∣ a ∨ x ∣ o) := fun x hx => by
    unfold pieces at hx
    rw [List.mem_filter] at hx
    refine ⟨by simpa [big] using hx.2, ?_⟩
    have : x = g ∨ x = a / g ∨ x = o / g := by simpa using hx.1
    rcases this with e | e | e
    · rw [e]; exact .inl d1
    · rw [e]; exact .inl ⟨g, by rw [Nat.mul_comm]; exact e1.symm⟩
    · rw [e]; exact .inr ⟨g, by rw [Nat.mul_comm]; exact e2.symm⟩
  have hin : ∀ x, 0 < x → (x = g ∨ x = a / g ∨ x = o / g) → Mon ((wt ++ pieces a o g) ++ (f1 ++ f2)) x := fun x hx hd => by
    by_cases h1 : 1 < x
    · refine .self (List.mem_append_left _ (List.mem_append_right _ ?_))
      unfold pieces
      rw [List.mem_filter]
      exact ⟨by simpa using hd, by simpa [big] using h1⟩
    · have : x = 1 := by omega
      rw [this]
      exact .one
  have hlt : lprod ((wt ++ pieces a o g) ++ (f1 ++ f2)) * g = lprod ((a :: wt) ++ (f1 ++ o :: f2)) := by
    rw [lprod_app, lprod_app, lprod_app, lprod_app, lprod_app, hpc]
    show lprod wt * (g * (a / g) * (o / g)) * (lprod f1 * lprod f2) * g = a * lprod wt * (lprod f1 * (o * lprod f2))
    rw [e1]
    have : o = g * (o / g) := e2.symm
    calc lprod wt * (a * (o / g)) * (lprod f1 * lprod f2) * g = a * lprod wt * (lprod f1 * ((g * (o / g)) * lprod f2)) := by ac_rfl
      _ = _ := by rw [e2]
  have hgt : ∀ s ∈ (wt ++ pieces a o g) ++ (f1 ++ f2), 1 < s := fun s hs => by
    rcases List.mem_append.mp hs with hs | hs
    · rcases List.mem_append.mp hs with hs | hs
      · exact h.gt s (by simp [hs])
      · exact (hmem s hs).1
    · exact h.gt s (by rcases List.mem_append.mp hs with hs | hs <;> simp [hs])
  have hpos : 0 < lprod ((wt ++ pieces a o g) ++ (f1 ++ f2)) := Nat.lt_of_lt_of_le (Nat.pow_pos (by decide)) (lprod_ge hgt)
  have hless : lprod ((wt ++ pieces a o g) ++ (f1 ++ f2)) < lprod ((a :: wt) ++ (f1 ++ o :: f2)) := by
    rw [← hlt]
    exact (Nat.lt_mul_iff_one_lt_right hpos).mpr hg
  refine ⟨⟨hgt, ?_, fun x hx h1 => (h.mon x hx h1).trans fun s hs => ?_, fun s hs => ?_, Nat.le_trans (Nat.le_of_lt hless) h.lp⟩, hless⟩
  · have := h.co
    rw [List.pairwise_append] at this ⊢
    obtain ⟨c1, c2, c3⟩ := this
    exact ⟨c1, (List.pairwise_cons.mp c2).2, fun x hx y hy => c3 x hx y (List.mem_cons_of_mem _ hy)⟩
  · rcases List.mem_append.mp hs with hs | hs
    · rcases List.mem_cons.mp hs with e | hs
      · have hM := (hin g (by omega) (.inl rfl)).prod (hin _ p1 (.inr (.inl rfl)))
        rw [e1] at hM
        rw [e]
        exact hM
      · exact .self (by simp [hs])
    · rcases List.mem_append.mp hs with hs | hs
      · exact .self (by simp [hs])
      · rcases List.mem_cons.mp hs with e | hs
        · have hM := (hin g (by omega) (.inl rfl)).prod (hin _ p2 (.inr (.inr rfl)))
          rw [e2] at hM
          rw [e]
          exact hM
        · exact .self (by simp [hs])
  · rcases List.mem_append.mp hs with hs | hs
    · rcases List.mem_append.mp hs with hs | hs
      · exact h.dvd s (by simp [hs])
      · rcases (hmem s hs).2 with hd | hd
        · obtain ⟨x, hx, h1, h2⟩ := h.dvd a (by simp)
          exact ⟨x, hx, h1, Nat.dvd_trans hd h2⟩
        · obtain ⟨x, hx, h1, h2⟩ := h.dvd o (by simp)
          exact ⟨x, hx, h1, Nat.dvd_trans hd h2⟩
    · exact h.dvd s (by rcases List.mem_append.mp hs with hs | hs <;> simp [hs])
end DL
set_option Elab.async false
set_option linter.all false
set_option maxRecDepth 100000
set_option maxHeartbeats 4000000
/-! PD: plain laws: refined, the loop -/
namespace DL
open PySem PySem.Spec L2 DM

def enumG : Nat → List D → List D
  | _, [] => []
  | n, x :: r => D.tup [.int n, x] :: enumG (n + 1) r
theorem zip_range : ∀ (xs : List D) (n : Nat), (xs.zip (List.range' n xs.length)).map (fun p : D × Nat => D.tup [.int p.2, p.1]) = enumG n xs
  | [], _ => rfl
  | x :: r, n => by
    rw [List.length_cons, List.range'_succ, List.zip_cons_cons, List.map_cons, zip_range r (n + 1)]
    rfl
theorem enumOf_eq (xs : List D) : enumOf xs = enumG 0 xs := by
  unfold enumOf
  rw [List.range_eq_range']
  exact zip_range xs 0
theorem intsD_app (a b : List Nat) : intsD a ++ intsD b = intsD (a ++ b) := by
  unfold intsD
  rw [List.map_append]
theorem intsD_len (a : List Nat) : (intsD a).length = a.length := by
  unfold intsD
  rw [List.length_map]
theorem cutD_to (f1 : List Nat) (f2 : List Nat) : cutD (intsD (f1 ++ f2)) none (some (f1.length : Int)) = intsD f1 := by
  unfold cutD
  rw [HT.sIx_none, HT.sIx_nat, intsD_len, List.drop_zero, Nat.sub_zero, List.length_append, Nat.min_eq_left (Nat.le_add_right _ _), ← intsD_app, List.take_append_of_le_length (by rw [intsD_len]; exact Nat.le_refl _)]
  rw [← intsD_len f1, List.take_length]
theorem cutD_from (f1 : List Nat) (x : Nat) (f2 : List Nat) : cutD (intsD (f1 ++ x :: f2)) (some ((f1.length : Int) + 1)) none = intsD f2 := by
  unfold cutD
  have e : ((f1.length : Int) + 1) = ((f1.length + 1 : Nat) : Int) := by simp
  rw [e, HT.sIx_none, HT.sIx_nat, intsD_len]
  have hl : (f1 ++ x :: f2).length = f1.length + 1 + f2.length := by simp; omega
  rw [hl, Nat.min_eq_left (Nat.le_add_right _ _)]
  have e2 : f1 ++ x :: f2 = (f1 ++ [x]) ++ f2 := by simp
  rw [e2, ← intsD_app, List.drop_append_of_le_length (by rw [intsD_len]; simp)]
  have e3 : (intsD (f1 ++ [x])).drop (f1.length + 1) = [] := List.drop_of_length_le (by rw [intsD_len]; simp)
  rw [e3, List.nil_append]
  exact List.take_of_length_le (by rw [intsD_len]; omega)
def fBig (p : Nat) : Option D := if big p = true then some (.int p) else none
theorem fm_big : ∀ (l : List Nat), l.filterMap fBig = intsD (l.filter big)
  | [] => rfl
  | a :: as => by
    rw [List.filterMap_cons, List.filter_cons]
    unfold fBig
    by_cases h : big a = true
    · rw [if_pos h, if_pos h]
      show D.int a :: as.filterMap fBig = D.int a :: intsD (as.filter big)
      rw [fm_big as]
    · rw [if_neg h, if_neg h]
      exact fm_big as
theorem int_big (p : Nat) : decide ((1 : Int) < (p : Int)) = big p := by
  unfold big
  by_cases h : 1 < p
  · rw [decide_eq_true h, decide_eq_true (by omega)]
  · rw [decide_eq_false h, decide_eq_false (by omega)]
/-- [x for x in .. if x > 1], x in slot i -/
theorem lc_big {C : DEnv → Prop} {e : DEnv} {i : Nat} (hC : C e) (hi : ∀ d : D, (e.set i (.sh d))[i]? = some (.sh d)) (hw : ∀ d : D, wipeE (e.set i (.sh d)) [i] = e) {w : List Nat} {Q : List D → DEnv → Prop} (hQ : Q (intsD (w.filter big)) e) :
    lcL C [i] (gN i) (dTest (dOp fGt (oSlot i) (oVal (dC (.int 1))))) (dVar i) Q (intsD w) [] e := by
  refine lcL_ints (f := fBig) hC (fun p hp K1 hK => ?_) (by rw [List.nil_append, fm_big]; exact hQ)
  have hs := hi (.int p)
  simp only [dTest, dOp, oSlot, hs]
  refine ⟨.int p, .int 1, .bl (decide ((1 : Int) < (p : Int))), ?_, rfl, rfl, _, rfl, ?_⟩
  · show look (e.set i (.sh (.int p))) (.slot i) = _
    simp only [look, hs]
  · rw [int_big]
    unfold fBig at hK
    by_cases h : big p = true
    · rw [if_pos h] at hK
      rw [if_pos h]
      unfold dVar
      rw [hs]
      show K1 (some (.int p)) (wipeE (e.set i (.sh (.int p))) [i])
      rw [hw]
      exact hK
    · rw [if_neg h] at hK
      rw [if_neg h]
      show K1 none (wipeE (e.set i (.sh (.int p))) [i])
      rw [hw]
      exact hK
def rMeas (wt fd : List Nat) : Nat := lprod (wt ++ fd) * (lprod (wt ++ fd) + 1) + wt.length
theorem rMeas_move {wt fd : List Nat} {a : Nat} : rMeas wt (fd ++ [a]) < rMeas (a :: wt) fd := by
  unfold rMeas
  have e : lprod (wt ++ (fd ++ [a])) = lprod ((a :: wt) ++ fd) := by
    rw [lprod_app, lprod_app, lprod_app]
    show lprod wt * (lprod fd * (a * 1)) = a * lprod wt * lprod fd
    rw [Nat.mul_one]
    ac_rfl
  rw [e, List.length_cons]
  omega
theorem rMeas_part {wt fd wt' fd' : List Nat} (h : lprod (wt' ++ fd') < lprod (wt ++ fd)) (hg : ∀ s ∈ wt' ++ fd', 1 < s) : rMeas wt' fd' < rMeas wt fd := by
  unfold rMeas
  have h1 := lprod_ge hg
  have h2 : (wt' ++ fd').length < 2 ^ (wt' ++ fd').length := Nat.lt_two_pow_self
  rw [List.length_append] at h1 h2
  generalize lprod (wt' ++ fd') = p' at *
  generalize lprod (wt ++ fd) = p at *
  have h3 : wt'.length ≤ p' := by omega
  have h4 : p' + 1 ≤ p := h
  have h5 : (p' + 1) * (p' + 1 + 1) ≤ p * (p + 1) := Nat.mul_le_mul h4 (by omega)
  have h6 : (p' + 1) * (p' + 1 + 1) = p' * (p' + 1) + (p' + 1) + (p' + 1) := by
    rw [Nat.mul_add, Nat.mul_one, Nat.add_mul, Nat.one_mul]
  omega
end DL
set_option Elab.async false
set_option linter.all false
set_option maxRecDepth 100000
set_option maxHeartbeats 4000000
/-! PE1: plain laws: refined, joined -/
namespace DL
open PySem PySem.Spec L2 DM

theorem int_gcd (g : Nat) : decide ((1 : Int) < (g : Int)) = decide (1 < g) := by
  by_cases h : 1 < g
  · rw [decide_eq_true h, decide_eq_true (by omega)]
  · rw [decide_eq_false h, decide_eq_false (by omega)]
/-- the inner loop of refined: what is found ahead of f2 has no divisor in common with a -/
theorem refined_inner {X0 : Ent} {xs wt : List Nat} {a : Nat} {fd : List Nat} (hI : RInv xs (a :: wt) fd) (hxl : xs.length ≤ 100000) (hxb : ∀ x ∈ xs, x ≤ 10 ^ 20) {W : DEnv → Prop} {rt : D → Prop} {bk ct : DEnv → Prop}
    (hW : ∀ wt' fd' t3 t4 t5 t6 t7, RInv xs wt' fd' → rMeas wt' fd' < rMeas (a :: wt) fd → W [X0, .sh (.lst (intsD wt')), .sh (.lst (intsD fd')), t3, t4, t5, t6, t7]) :
    ∀ (f2 f1 : List Nat) (t4 t5 t6 t7 : Ent), fd = f1 ++ f2 → (∀ f ∈ f1, Nat.gcd a f ≤ 1) →
    forE (fun _ => True) (gTupD 2 (gConsD (gN 4) (gConsD (gN 5) gNilD)))
      (dSeq (dAsg (dApp sp_common_divisor (aCons (dVar 3) (aCons (dVar 5) aNil))) (gN 6)) (dIfS (dTest (dOp fGt (oSlot 6) (oVal (dC (.int 1))))) (dSeq (dAsg (dNew (fCat (oSlot 1) (oVal (dNew (fLc (iSeqD (dTup (aCons (dVar 6) (aCons (dOp fFdiv (oSlot 3) (oSlot 6)) (aCons (dOp fFdiv (oSlot 5) (oSlot 6)) aNil))))) [7] (gN 7) (dTest (dOp fGt (oSlot 7) (oVal (dC (.int 1))))) (dVar 7)))))) (gN 1)) (dSeq (dAsg (dNew (fCat (oVal (dNew (fSl (oSlot 2) dNoPart (dPart (oSlot 4))))) (oVal (dNew (fSl (oSlot 2) (dPart (oVal (dOp fAdd (oSlot 4) (oVal (dC (.int 1)))))) dNoPart))))) (gN 2)) dBreak)) dNext))
      (dAsg (dNew (fCat (oSlot 2) (oVal (dNew (fLst (aCons (dVar 3) aNil)))))) (gN 2)) { nx := W, rt := rt, bk := bk, ct := ct } (enumG f1.length (intsD f2)) [X0, .sh (.lst (intsD wt)), .sh (.lst (intsD fd)), .sh (.int a), t4, t5, t6, t7]
  | [], f1, t4, t5, t6, t7, hf, hc => by
    have hlen := hI.len hxl
    rw [List.append_nil] at hf
    subst hf
    refine ⟨trivial, len_line rfl, intsD fd, intsD [a], rfl, rfl, le_line ?_, ?_⟩
    · rw [intsD_len, intsD_len]
      simp at hlen ⊢
      omega
    · rw [intsD_app]
      exact hW wt (fd ++ [a]) _ _ _ _ _ (hI.moved hc) rMeas_move
  | f :: f2, f1, t4, t5, t6, t7, hf, hc => by
    have hlen := hI.len hxl
    subst hf
    refine ⟨trivial, rfl, rfl, a, f, rfl, ?_⟩
    refine ⟨_, _, _, rfl, rfl, rfl, _, rfl, ?_⟩
    rw [int_gcd]
    by_cases hg : 1 < Nat.gcd a f
    · rw [decide_eq_true hg]
      have hp := hI.parted hg
      have g0 : (0 : Int) < (Nat.gcd a f : Nat) := by omega
      have gl : Nat.gcd a f ≤ 10 ^ 20 := by
        obtain ⟨x, hx, h1, h2⟩ := hI.dvd a (by simp)
        have ha : 1 < a := hI.gt a (by simp)
        exact Nat.le_trans (Nat.le_of_dvd (by omega) (Nat.gcd_dvd_left a f)) (Nat.le_trans (Nat.le_of_dvd (by omega) h2) (hxb x hx))
      have hpl : (pieces a f (Nat.gcd a f)).length ≤ 3 := by
        unfold pieces
        exact List.length_filter_le _ _
      refine ⟨_, _, _, rfl, rfl, fFdiv_pos g0 (small_int gl), _, _, _, rfl, rfl, fFdiv_pos g0 (small_int gl), len_line rfl, _, rfl, len_line rfl, ?_⟩
      show lcL _ _ _ _ _ _ (intsD [Nat.gcd a f, a / Nat.gcd a f, f / Nat.gcd a f]) [] _
      refine lc_big trivial (fun d => rfl) (fun d => rfl) ?_
      refine ⟨intsD wt, intsD (pieces a f (Nat.gcd a f)), rfl, rfl, le_line ?_, ?_⟩
      · rw [intsD_len, intsD_len]
        simp at hlen
        omega
      · refine ⟨_, rfl, _, _, rfl, rfl, _, _, _, rfl, rfl, rfl, _, rfl, _, _, rfl, rfl, _, _, rfl, rfl, ?_, ?_⟩
        · rw [cutD_to f1 (f :: f2), cutD_from, intsD_len, intsD_len]
          simp at hlen
          exact le_line (by omega)
        · have h1 := hW _ _ (.sh (.int a)) (.sh (.int f1.length)) (.sh (.int f)) (.sh (.int (Nat.gcd a f : Nat))) .un hp.1 (rMeas_part hp.2 hp.1.gt)
          have e1 : cutD (intsD (f1 ++ f :: f2)) none (some (f1.length : Int)) ++ cutD (intsD (f1 ++ f :: f2)) (some ((f1.length : Int) + 1)) none = intsD (f1 ++ f2) := by rw [cutD_to f1 (f :: f2), cutD_from, intsD_app]
          rw [← intsD_app, ← e1] at h1
          exact h1
    · rw [decide_eq_false hg]
      have := refined_inner hI hxl hxb hW (rt := rt) (bk := bk) (ct := ct) f2 (f1 ++ [f]) (.sh (.int f1.length)) (.sh (.int f)) (.sh (.int (Nat.gcd a f : Nat))) t7 (by simp) (fun x hx => by
        rcases List.mem_append.mp hx with hx | hx
        · exact hc x hx
        · have e : x = f := by simpa using hx
          rw [e]
          omega)
      rw [List.length_append] at this
      exact this
theorem does_refined : Does 8 rd_refined sp_refined := by
  rintro ds Q ⟨xs, rfl, hxl, hxb, hQ⟩
  refine ⟨intsD xs, rfl, le_line (by rw [intsD_len]; omega), ?_⟩
  refine lc_big trivial (fun d => rfl) (fun d => rfl) ?_
  refine ⟨len_line rfl, len_line rfl, rfl, rfl, ?_⟩
  refine ⟨fun m e => ∃ wt fd t3 t4 t5 t6 t7, e = [.sh (.lst (intsD xs)), .sh (.lst (intsD wt)), .sh (.lst (intsD fd)), t3, t4, t5, t6, t7] ∧ RInv xs wt fd ∧ m = rMeas wt fd, ⟨_, _, [], _, _, _, _, _, rfl, .start hxb, rfl⟩, ?_⟩
  rintro m _ ⟨wt, fd, t3, t4, t5, t6, t7, rfl, hI, hm⟩
  refine ⟨len_line rfl, _, _, _, rfl, rfl, fNe_ints wt [], _, rfl, ?_⟩
  cases wt with
  | nil =>
    -- the end
    have hlen := hI.len hxl
    refine ⟨_, _, rfl, by show (intsOf _).map _ = _; rw [intsOf_nat] <;> rfl, _, _, rfl, rfl, ?_⟩
    have hp : ∃ bs : List Nat, (isortI (fd.map fun n : Nat => (n : Int))).map D.int = intsD bs ∧ bs.Perm fd ∧ bs.Pairwise (· ≤ ·) := by
      refine ⟨(isortI (fd.map fun n : Nat => (n : Int))).map Int.toNat, ?_, ?_, ?_⟩
      · unfold intsD
        rw [List.map_map]
        apply List.map_congr_left
        intro i hi
        have : i ∈ fd.map fun n : Nat => (n : Int) := (isortI_perm _).mem_iff.mp hi
        obtain ⟨n, _, e⟩ := List.mem_map.mp this
        subst e
        rfl
      · have h1 := (isortI_perm (fd.map fun n : Nat => (n : Int))).map Int.toNat
        have h2 : (fd.map fun n : Nat => (n : Int)).map Int.toNat = fd := by
          rw [List.map_map]
          exact List.map_id'' (fun n => rfl) fd
        rw [h2] at h1
        exact h1
      · exact List.Pairwise.map _ (fun a b h => Int.toNat_le_toNat h) (isortI_le _)
    obtain ⟨bs, e1, hp, hs⟩ := hp
    show Q (.tup ((isortI (fd.map fun n : Nat => (n : Int))).map D.int))
    rw [e1]
    refine hQ bs ⟨⟨?_, fun b hb => hI.gt b (by simpa using hp.mem_iff.mp hb)⟩, fun x hx h1 => (hI.mon x hx h1).mono fun s hs => hp.mem_iff.mpr (by simpa using hs), fun b hb => hI.dvd b (by simpa using hp.mem_iff.mp hb), hs⟩
    exact hp.symm.pairwise hI.co fun {x y} h => Nat.Coprime.symm h
  | cons a wt =>
    refine ⟨_, rfl, Nat.succ_le_succ (Nat.zero_le _), rfl, _, _, rfl, rfl, ?_⟩
    rw [enumOf_eq]
    refine refined_inner hI hxl hxb (fun wt' fd' t3 t4 t5 t6 t7 hI' hlt => ?_) fd [] _ _ _ _ rfl (fun f hf => nomatch hf)
    exact ⟨_, by rw [hm]; exact hlt, wt', fd', t3, t4, t5, t6, t7, rfl, hI', rfl⟩
end DL
set_option Elab.async false
set_option linter.all false
set_option maxRecDepth 100000
set_option maxHeartbeats 4000000
/-! PF: plain laws: what two writings have in common, numbers made -/
namespace DL
open PySem PySem.Spec L2 DM

/-- the inner clause of common_base -/
theorem lcI_bases {C : DEnv → Prop} {e : DEnv} {vs1 : List Nat} {i j : Nat} {te : TD} {Kt : List D → DEnv → Prop} (hC : C e) : ∀ {w : List (Nat × Nat)} {acc : List D},
    acc.length + w.length ≤ 100000 → (∀ p ∈ w, ∀ K1 : D → DEnv → Prop, (∀ e', wipeE e' vs1 = e → K1 (.int p.1) e') → te ((e.set i (.sh (.int p.1))).set j (.sh (.int p.2))) K1) →
    Kt (acc ++ intsD (w.map (·.1))) e → lcI C vs1 (gTupD 2 (gConsD (gN i) (gConsD (gN j) gNilD))) dYes te Kt (w.map pairD) acc e
  | [], acc, _, _, hQ => ⟨hC, by simpa [intsD] using hQ⟩
  | p :: w, acc, hl, ht, hQ => ⟨hC, rfl, rfl, ht p List.mem_cons_self _ fun e' he => by
    simp at hl
    refine ⟨Nat.lt_of_lt_of_le (by omega : acc.length < 100001) (le_line (by omega)), ?_⟩
    rw [he]
    refine lcI_bases hC (by simp; omega) (fun q hq => ht q (List.mem_cons_of_mem _ hq)) ?_
    have e1 : acc ++ [D.int p.1] ++ intsD (w.map (·.1)) = acc ++ intsD ((p :: w).map (·.1)) := by simp [intsD]
    rw [e1]
    exact hQ⟩
theorem refd_ok {R : Nat} {w1 w2 : List (Nat × Nat)} {bs : List Nat} (h1 : WF R w1) (h2 : WF R w2) (h : Refd (w1.map (·.1) ++ w2.map (·.1)) bs) : BOk R bs ∧ (∀ p ∈ w1, Mon bs p.1) ∧ ∀ p ∈ w2, Mon bs p.1 := by
  have hok : ∀ x ∈ w1.map (·.1) ++ w2.map (·.1), OkB R x := fun x hx => by
    rcases List.mem_append.mp hx with hx | hx
    · obtain ⟨p, hp, e⟩ := List.mem_map.mp hx
      rw [← e]
      exact (h1.ok p hp).1
    · obtain ⟨p, hp, e⟩ := List.mem_map.mp hx
      rw [← e]
      exact (h2.ok p hp).1
  refine ⟨⟨h.pc, fun b hb => ?_⟩, fun p hp => ?_, fun p hp => ?_⟩
  · obtain ⟨x, hx, hx1, hd⟩ := h.dvd b hb
    have ho := hok x hx
    have hb1 := h.pc.gt b hb
    obtain ⟨k, hk⟩ := ho.su
    exact ⟨hb1, Nat.le_trans (Nat.le_of_dvd (by omega) hd) ho.hi, k, Nat.dvd_trans hd hk⟩
  · exact h.mon p.1 (List.mem_append_left _ (List.mem_map.mpr ⟨p, hp, rfl⟩)) (h1.ok p hp).1.lo
  · exact h.mon p.1 (List.mem_append_right _ (List.mem_map.mpr ⟨p, hp, rfl⟩)) (h2.ok p hp).1.lo
theorem does_common_base : Does 4 rd_common_base sp_cb := by
  rintro ds Q ⟨R, w1, w2, rfl, hR, h1, h2, hQ⟩
  have l1 := h1.ln
  have l2 := h2.ln
  refine ⟨_, rfl, trivial, _, rfl, ?_⟩
  refine lcI_bases (e := [.sh (.tup [.tup (w1.map pairD), .tup (w2.map pairD)]), .sh (.tup (w1.map pairD)), .un, .un]) trivial (by simp; omega) (fun p hp K1 hK => hK _ rfl) ?_
  show lcO _ [1, 2, 3] [2, 3] _ _ _ _ _ _ _ [.tup (w2.map pairD)] _ [.sh (.tup [.tup (w1.map pairD), .tup (w2.map pairD)]), .un, .un, .un]
  refine ⟨trivial, _, rfl, ?_⟩
  refine lcI_bases (e := [.sh (.tup [.tup (w1.map pairD), .tup (w2.map pairD)]), .sh (.tup (w2.map pairD)), .un, .un]) trivial (by simp [intsD]; omega) (fun p hp K1 hK => hK _ rfl) ?_
  show lcO _ [1, 2, 3] [2, 3] _ _ _ _ _ _ _ [] _ [.sh (.tup [.tup (w1.map pairD), .tup (w2.map pairD)]), .un, .un, .un]
  refine ⟨trivial, w1.map (·.1) ++ w2.map (·.1), ?_, by simp; omega, fun x hx => ?_, fun bs hb => ?_⟩
  · rw [List.nil_append, intsD_app]
  · rcases List.mem_append.mp hx with hx | hx
    · obtain ⟨p, hp, e⟩ := List.mem_map.mp hx
      rw [← e]
      exact (h1.ok p hp).1.hi
    · obtain ⟨p, hp, e⟩ := List.mem_map.mp hx
      rw [← e]
      exact (h2.ok p hp).1.hi
  · obtain ⟨g1, g2, g3⟩ := refd_ok h1 h2 hb
    exact hQ bs g1 g2 g3
theorem zipOf_pairs : ∀ (es fs : List Nat), zipOf (intsD es) (intsD fs) = zipE es fs
  | [], _ => rfl
  | _ :: _, [] => rfl
  | e :: es, f :: fs => by
    have ih := zipOf_pairs es fs
    unfold zipOf zipE intsD at *
    rw [List.map_cons, List.map_cons, List.zip_cons_cons, List.zip_cons_cons, List.map_cons, List.map_cons, ih]
    rfl
theorem does_compared : Does 3 rd_compared sp_compared := by
  rintro ds Q ⟨R, w1, w2, rfl, hR, h1, h2, hQ⟩
  refine ⟨_, _, _, rfl, rfl, _, _, _, rfl, rfl, Nat.zero_le _, len_line rfl, R, w1, w2, rfl, hR, h1, h2, fun bs hb m1 m2 => ?_⟩
  obtain ⟨ex1, _, e1⟩ := exps_ex hb m1
  obtain ⟨ex2, _, e2⟩ := exps_ex hb m2
  refine ⟨_, _, _, rfl, rfl, R, w1, bs, rfl, hR, h1, hb, m1, fun es he1 he2 => ?_⟩
  refine ⟨_, _, _, rfl, rfl, R, w2, bs, rfl, hR, h2, hb, m2, fun fs hf1 hf2 => ?_⟩
  refine ⟨_, _, _, _, rfl, rfl, rfl, len_line rfl, ?_⟩
  rw [zipOf_pairs]
  exact hQ bs es fs hb he1 hf1 he2 hf2
/-! ### a number with given exponents -/
def keep (p : Nat × Nat) : Bool := decide (0 < p.2)
theorem val_keep : ∀ (bs es : List Nat), es.length = bs.length → val ((bs.zip es).filter keep) = pp bs es
  | [], es, h => by
    have e : es = [] := List.eq_nil_of_length_eq_zero h
    subst e
    rfl
  | b :: bs, e :: es, h => by
    have ih := val_keep bs es (Nat.succ.inj h)
    rw [List.zip_cons_cons]
    by_cases h0 : 0 < e
    · rw [List.filter_cons_of_pos (by unfold keep; simpa using h0)]
      show b ^ e * val _ = b ^ e * pp bs es
      rw [ih]
    · rw [List.filter_cons_of_neg (by unfold keep; simpa using h0), ih]
      have : e = 0 := by omega
      show pp bs es = b ^ e * pp bs es
      rw [this, Nat.pow_zero, Nat.one_mul]
  | _ :: _, [], h => nomatch h
theorem wf_keep {R : Nat} {bs es : List Nat} (hR : ROk R) (hb : BOk R bs) : WF R ((bs.zip es).filter keep) := by
  refine ⟨fun p hp => ?_, ?_⟩
  · rw [List.mem_filter] at hp
    exact ⟨hb.ok p.1 (List.of_mem_zip hp.1).1, by have := hp.2; simp [keep] at this; omega⟩
  · refine Nat.le_trans (List.length_filter_le _ _) ?_
    rw [List.length_zip]
    have := hb.len hR
    omega
def fKeep (p : Nat × Nat) : Option D := if keep p = true then some (pairD p) else none
theorem fm_keep : ∀ (l : List (Nat × Nat)), l.filterMap fKeep = (l.filter keep).map pairD
  | [] => rfl
  | a :: as => by
    rw [List.filterMap_cons, List.filter_cons]
    unfold fKeep
    by_cases h : keep a = true
    · rw [if_pos h, if_pos h, List.map_cons]
      show pairD a :: as.filterMap fKeep = _
      rw [fm_keep as]
    · rw [if_neg h, if_neg h]
      exact fm_keep as
theorem int_keep (n : Nat) : decide ((0 : Int) < (n : Int)) = decide (0 < n) := by
  by_cases h : 0 < n
  · rw [decide_eq_true h, decide_eq_true (by omega)]
  · rw [decide_eq_false h, decide_eq_false (by omega)]
theorem does_number_with : Does 5 rd_number_with sp_number_with := by
  rintro ds Q ⟨R, bs, es, rfl, hR, hb, hl, hQ⟩
  have hbl := hb.len hR
  refine ⟨_, _, _, _, rfl, rfl, rfl, ?_⟩
  rw [zipOf_pairs]
  have hzl : (zipE bs es).length ≤ 4096 := by
    unfold zipE
    rw [List.length_map, List.length_zip]
    omega
  refine ⟨le_line (by omega), ?_⟩
  refine lcL_pairs (f := fKeep) trivial (fun p hp K1 hK => ?_) ?_
  · refine ⟨_, _, _, rfl, rfl, rfl, _, rfl, ?_⟩
    rw [int_keep]
    unfold fKeep keep at hK
    by_cases h : 0 < p.2
    · rw [decide_eq_true h] at hK ⊢
      exact ⟨len_line rfl, hK⟩
    · rw [decide_eq_false h] at hK ⊢
      exact hK
  · rw [List.nil_append, fm_keep]
    refine ⟨_, _, rfl, rfl, Nat.zero_le _, ?_, R, (bs.zip es).filter keep, rfl, wf_keep hR hb, ?_⟩
    · rw [List.drop_zero, List.length_map]
      exact le_line (by have := (wf_keep (es := es) hR hb).ln; omega)
    · exact hQ _ (wf_keep hR hb) (val_keep bs es hl)
end DL
set_option Elab.async false
set_option linter.all false
set_option maxRecDepth 100000
set_option maxHeartbeats 4000000
/-! PG: plain laws: the operators -/
namespace DL
open PySem PySem.Spec L2 DM

theorem zw_map {g : Nat → Nat → Nat} : ∀ (es fs : List Nat), (es.zip fs).map (fun p => g p.1 p.2) = List.zipWith g es fs
  | [], _ => rfl
  | _ :: _, [] => rfl
  | e :: es, f :: fs => by
    rw [List.zip_cons_cons, List.map_cons, zw_map es fs]
    rfl
theorem zipE_len {es fs : List Nat} {n : Nat} (h1 : es.length = n) (h2 : fs.length = n) (hn : n ≤ 4096) : (zipE es fs).length ≤ sizeLine := by
  unfold zipE
  rw [List.length_map, List.length_zip, h1, h2, Nat.min_self]
  exact le_line (by omega)
theorem fm_int {g : Nat → Nat → Nat} (es fs : List Nat) : ([] ++ (es.zip fs).filterMap fun p => some (D.int (g p.1 p.2 : Nat))) = intsD (List.zipWith g es fs) := by
  rw [List.nil_append, fm_some, ← zw_map]
  unfold intsD
  rw [List.map_map]
  rfl
theorem does_Number_mul : Does 6 rd_Number_mul sp_mul := by
  rintro ds Q ⟨R, w1, w2, rfl, hR, h1, h2, _, hQ⟩
  refine ⟨R, w1, w2, rfl, hR, h1, h2, fun bs es fs hb l1 l2 e1 e2 => ?_⟩
  refine ⟨rfl, rfl, _, rfl, zipE_len l1 l2 (hb.len hR), ?_⟩
  show lcL _ [4, 5] _ _ _ _ ((es.zip fs).map pairD) [] [.sh (num w1), .sh (num w2), .sh (.tup (intsD bs)), .sh (.lst (zipE es fs)), .un, .un]
  refine lcL_pairs (f := fun p => some (.int (p.1 + p.2 : Nat))) trivial (fun p hp K1 hK => ⟨_, _, _, rfl, rfl, rfl, hK⟩) ?_
  rw [fm_int (g := (· + ·))]
  exact ⟨R, bs, _, rfl, hR, hb, zw_len l1 l2, fun w hw hv => hQ w hw (by rw [hv, pp_add l1 l2, e1, e2])⟩
theorem isi_num {K : PySem.W.Frag} {ca : Str → Addr} {w : List (Nat × Nat)} : fIsi K ca [num w, .cls "Number"] = some (.bl true) := by
  show (PySem.W.kitOne K (.ref (ca "Number")) (.ref (ca "Number"))).map D.bl = _
  unfold PySem.W.kitOne
  rw [if_pos (by simp)] <;> rfl
/-- the pairs that a test picks: none, if none passes -/
theorem pick_nil {l : List (Nat × Nat)} {t : Nat × Nat → Bool} : (l.filterMap fun p => if t p = true then some (D.int p.1) else none) = intsD ((l.filter t).map (·.1)) := by
  induction l with
  | nil => rfl
  | cons a l ih =>
    rw [List.filterMap_cons, List.filter_cons]
    by_cases h : t a = true
    · rw [if_pos h, if_pos h, List.map_cons]
      show D.int a.1 :: _ = D.int a.1 :: intsD _
      rw [ih] <;> rfl
    · rw [if_neg h, if_neg h]
      exact ih
theorem pick_all {es fs : List Nat} {n : Nat} (h1 : es.length = n) (h2 : fs.length = n) (t : Nat × Nat → Bool) : decide (((es.zip fs).filter t).map (·.1) = []) = decide (∀ i (g1 : i < es.length) (g2 : i < fs.length), t (es[i], fs[i]) = false) := by
  rw [decide_eq_decide, List.map_eq_nil_iff, List.filter_eq_nil_iff]
  constructor
  · intro h i g1 g2
    have := h (es[i], fs[i]) (by
      rw [List.mem_iff_getElem]
      exact ⟨i, by rw [List.length_zip]; omega, by rw [List.getElem_zip]⟩)
    simpa using this
  · intro h p hp
    obtain ⟨i, hi, e⟩ := List.getElem_of_mem hp
    rw [List.length_zip] at hi
    rw [← e, List.getElem_zip]
    have := h i (by omega) (by omega)
    simp [this]
theorem does_Number_eq {K : PySem.W.Frag} {ca : Str → Addr} : Does 6 (rd_Number_eq K ca) sp_eq := by
  rintro ds Q ⟨R, w1, w2, rfl, hR, h1, h2, hQ⟩
  refine ⟨_, _, rfl, isi_num, _, _, rfl, rfl, ?_⟩
  refine ⟨R, w1, w2, rfl, hR, h1, h2, fun bs es fs hb l1 l2 e1 e2 => ?_⟩
  refine ⟨rfl, rfl, _, rfl, zipE_len l1 l2 (hb.len hR), ?_⟩
  show lcL _ [4, 5] _ _ _ _ ((es.zip fs).map pairD) [] [.sh (num w1), .sh (num w2), .sh (.tup (intsD bs)), .sh (.lst (zipE es fs)), .un, .un]
  refine lcL_pairs (f := fun p => if (!decide (p.1 = p.2)) = true then some (.int p.1) else none) trivial (fun p hp K1 hK => ?_) ?_
  · refine ⟨_, _, _, rfl, rfl, fNe_int _ _, _, rfl, ?_⟩
    have e3 : ((p.1 : Int) == (p.2 : Int)) = decide (p.1 = p.2) := by
      by_cases h : p.1 = p.2
      · rw [h, decide_eq_true rfl]
        simp
      · rw [decide_eq_false h]
        simp
        omega
    rw [e3]
    by_cases h : p.1 = p.2
    · rw [decide_eq_true h] at hK ⊢
      exact hK
    · rw [decide_eq_false h] at hK ⊢
      exact hK
  · rw [List.nil_append, pick_nil (t := fun p => !decide (p.1 = p.2))]
    refine ⟨len_line rfl, _, _, _, rfl, rfl, fEq_ints _ [], ?_⟩
    rw [pick_all l1 l2]
    have e3 : decide (∀ i (g1 : i < es.length) (g2 : i < fs.length), (!decide (es[i] = fs[i])) = false) = decide (val w1 = val w2) := by
      rw [decide_eq_decide]
      constructor
      · intro h
        rw [← e1, ← e2]
        congr 1
        exact List.ext_getElem (by omega) fun i g1 g2 => by simpa using h i g1 g2
      · intro h i g1 g2
        have : es = fs := pp_inj hb.pc l1 l2 (by rw [e1, e2, h])
        subst this
        simp
    show Q (.bl (decide (∀ i (g1 : i < es.length) (g2 : i < fs.length), (!decide (es[i] = fs[i])) = false)))
    rw [e3]
    exact hQ
end DL
set_option Elab.async false
set_option linter.all false
set_option maxRecDepth 100000
set_option maxHeartbeats 4000000
/-! PH: plain laws: gcd, lcm, division, divides, checks -/
namespace DL
open PySem PySem.Spec L2 DM

theorem int_lt (a b : Nat) : decide ((a : Int) < (b : Int)) = decide (a < b) := by
  by_cases h : a < b
  · rw [decide_eq_true h, decide_eq_true (by omega)]
  · rw [decide_eq_false h, decide_eq_false (by omega)]
theorem does_Number_and : Does 6 rd_Number_and sp_and := by
  rintro ds Q ⟨R, w1, w2, rfl, hR, h1, h2, _, hQ⟩
  refine ⟨R, w1, w2, rfl, hR, h1, h2, fun bs es fs hb l1 l2 e1 e2 => ?_⟩
  refine ⟨rfl, rfl, _, rfl, zipE_len l1 l2 (hb.len hR), ?_⟩
  show lcL _ [4, 5] _ _ _ _ ((es.zip fs).map pairD) [] [.sh (num w1), .sh (num w2), .sh (.tup (intsD bs)), .sh (.lst (zipE es fs)), .un, .un]
  refine lcL_pairs (f := fun p => some (.int (min p.1 p.2 : Nat))) trivial (fun p hp K1 hK => ?_) ?_
  · refine ⟨_, _, _, rfl, rfl, rfl, _, rfl, ?_⟩
    rw [int_lt]
    by_cases h : p.1 < p.2
    · rw [decide_eq_true h]
      rw [Nat.min_eq_left (Nat.le_of_lt h)] at hK
      exact hK
    · rw [decide_eq_false h]
      rw [Nat.min_eq_right (Nat.le_of_not_lt h)] at hK
      exact hK
  · rw [fm_int (g := min)]
    exact ⟨R, bs, _, rfl, hR, hb, zw_len l1 l2, fun w hw hv => hQ w hw (by rw [hv, pp_gcd hb.pc l1 l2, e1, e2])⟩
theorem pp_lcm {bs es fs : List Nat} (h : PC bs) (h1 : es.length = bs.length) (h2 : fs.length = bs.length) : pp bs (List.zipWith max es fs) = Nat.lcm (pp bs es) (pp bs fs) := by
  have e1 : List.zipWith (· + ·) (List.zipWith min es fs) (List.zipWith max es fs) = List.zipWith (· + ·) es fs := by
    apply List.ext_getElem
    · simp
    · intro i g1 g2
      simp
      omega
  have e2 : pp bs (List.zipWith min es fs) * pp bs (List.zipWith max es fs) = pp bs es * pp bs fs := by
    rw [← pp_add (zw_len h1 h2) (zw_len h1 h2), e1, pp_add h1 h2]
  have e3 : Nat.gcd (pp bs es) (pp bs fs) * Nat.lcm (pp bs es) (pp bs fs) = pp bs es * pp bs fs := Nat.gcd_mul_lcm _ _
  rw [pp_gcd h h1 h2, ← e3] at e2
  exact Nat.eq_of_mul_eq_mul_left (Nat.gcd_pos_of_pos_left _ (pp_pos h.pos)) e2
theorem does_Number_or : Does 6 rd_Number_or sp_or := by
  rintro ds Q ⟨R, w1, w2, rfl, hR, h1, h2, _, hQ⟩
  refine ⟨R, w1, w2, rfl, hR, h1, h2, fun bs es fs hb l1 l2 e1 e2 => ?_⟩
  refine ⟨rfl, rfl, _, rfl, zipE_len l1 l2 (hb.len hR), ?_⟩
  show lcL _ [4, 5] _ _ _ _ ((es.zip fs).map pairD) [] [.sh (num w1), .sh (num w2), .sh (.tup (intsD bs)), .sh (.lst (zipE es fs)), .un, .un]
  refine lcL_pairs (f := fun p => some (.int (max p.1 p.2 : Nat))) trivial (fun p hp K1 hK => ?_) ?_
  · refine ⟨_, _, _, rfl, rfl, rfl, _, rfl, ?_⟩
    rw [int_lt]
    by_cases h : p.1 < p.2
    · rw [decide_eq_true h]
      rw [Nat.max_eq_right (Nat.le_of_lt h)] at hK
      exact hK
    · rw [decide_eq_false h]
      rw [Nat.max_eq_left (Nat.le_of_not_lt h)] at hK
      exact hK
  · rw [fm_int (g := max)]
    exact ⟨R, bs, _, rfl, hR, hb, zw_len l1 l2, fun w hw hv => hQ w hw (by rw [hv, pp_lcm hb.pc l1 l2, e1, e2])⟩
theorem does_Number_floordiv : Does 6 rd_Number_floordiv sp_floordiv := by
  rintro ds Q ⟨R, w1, w2, rfl, hR, h1, h2, hd, hQ⟩
  refine ⟨R, w1, w2, rfl, hR, h1, h2, fun bs es fs hb l1 l2 e1 e2 => ?_⟩
  have hle : ∀ i (g1 : i < es.length) (g2 : i < fs.length), fs[i] ≤ es[i] := fun i g1 g2 => (pp_dvd hb.pc l2 l1).mp (by rw [e1, e2]; exact hd) i g2 g1
  refine ⟨rfl, rfl, _, rfl, zipE_len l1 l2 (hb.len hR), ?_⟩
  show lcL _ [4, 5] _ _ _ _ ((es.zip fs).map pairD) [] [.sh (num w1), .sh (num w2), .sh (.tup (intsD bs)), .sh (.lst (zipE es fs)), .un, .un]
  refine lcL_pairs (f := fun p => if decide (p.1 < p.2) = true then some (.int p.1) else none) trivial (fun p hp K1 hK => ?_) ?_
  · refine ⟨_, _, _, rfl, rfl, rfl, _, rfl, ?_⟩
    rw [int_lt]
    by_cases h : p.1 < p.2
    · rw [decide_eq_true h] at hK ⊢
      exact hK
    · rw [decide_eq_false h] at hK ⊢
      exact hK
  · rw [List.nil_append, pick_nil (t := fun p => decide (p.1 < p.2))]
    refine ⟨len_line rfl, _, _, _, rfl, rfl, fNe_ints _ [], _, rfl, ?_⟩
    rw [pick_all l1 l2, decide_eq_true (fun i g1 g2 => by have := hle i g1 g2; simpa using this)]
    refine ⟨_, rfl, zipE_len l1 l2 (hb.len hR), ?_⟩
    show lcL _ [4, 5] _ _ _ _ ((es.zip fs).map pairD) [] [.sh (num w1), .sh (num w2), .sh (.tup (intsD bs)), .sh (.lst (zipE es fs)), .un, .un]
    refine lcL_pairs (f := fun p => some (.int (p.1 - p.2 : Nat))) trivial (fun p hp K1 hK => ?_) ?_
    · have hp2 : p.2 ≤ p.1 := by
        obtain ⟨i, hi, e⟩ := List.getElem_of_mem hp
        rw [List.length_zip] at hi
        rw [← e, List.getElem_zip]
        exact hle i (by omega) (by omega)
      have e3 : ((p.1 : Int) - (p.2 : Int)) = ((p.1 - p.2 : Nat) : Int) := by omega
      have e5 : fSub (.int p.1) (.int p.2) = some (.int (p.1 - p.2 : Nat)) := by
        show some (D.int ((p.1 : Int) - (p.2 : Int))) = _
        rw [e3]
      exact ⟨_, _, _, rfl, rfl, e5, hK⟩
    · rw [fm_int (g := (· - ·))]
      refine ⟨R, bs, _, rfl, hR, hb, zw_len l1 l2, fun w hw hv => hQ w hw ?_⟩
      have e4 := pp_sub hb.pc l1 l2 hle
      rw [e1, e2, ← hv] at e4
      have hpos : 0 < val w2 := by rw [← e2]; exact pp_pos hb.pc.pos
      show val w = val w1 / val w2
      rw [← e4, Nat.mul_div_cancel _ hpos]
theorem does_check_number {K : PySem.W.Frag} {ca : Str → Addr} : Does 1 (rd_check_number K ca) sp_check_number := by
  rintro ds Q ⟨w, rfl, hQ⟩
  exact ⟨_, _, rfl, isi_num, _, _, rfl, rfl, hQ⟩
theorem does_divides : Does 6 rd_divides sp_divides := by
  rintro ds Q ⟨R, w1, w2, rfl, hR, h1, h2, hQ⟩
  refine ⟨w1, rfl, w2, rfl, R, w1, w2, rfl, hR, h1, h2, fun bs es fs hb l1 l2 e1 e2 => ?_⟩
  refine ⟨rfl, rfl, _, rfl, zipE_len l1 l2 (hb.len hR), ?_⟩
  show lcL _ [4, 5] _ _ _ _ ((es.zip fs).map pairD) [] [.sh (num w1), .sh (num w2), .sh (.tup (intsD bs)), .sh (.lst (zipE es fs)), .un, .un]
  refine lcL_pairs (f := fun p => if decide (p.2 < p.1) = true then some (.int p.1) else none) trivial (fun p hp K1 hK => ?_) ?_
  · refine ⟨_, _, _, rfl, rfl, rfl, _, rfl, ?_⟩
    rw [int_lt]
    by_cases h : p.2 < p.1
    · rw [decide_eq_true h] at hK ⊢
      exact hK
    · rw [decide_eq_false h] at hK ⊢
      exact hK
  · rw [List.nil_append, pick_nil (t := fun p => decide (p.2 < p.1))]
    refine ⟨len_line rfl, _, _, _, rfl, rfl, fEq_ints _ [], ?_⟩
    rw [pick_all l1 l2]
    have e3 : decide (∀ i (g1 : i < es.length) (g2 : i < fs.length), decide (fs[i] < es[i]) = false) = decide (val w1 ∣ val w2) := by
      rw [decide_eq_decide, ← e1, ← e2, pp_dvd hb.pc l1 l2]
      constructor
      · intro h i g1 g2
        simpa using h i g1 g2
      · intro h i g1 g2
        simpa using h i g1 g2
    show Q (.bl (decide (∀ i (g1 : i < es.length) (g2 : i < fs.length), decide (fs[i] < es[i]) = false)))
    rw [e3]
    exact hQ
end DL
set_option Elab.async false
set_option linter.all false
set_option maxRecDepth 100000
set_option maxHeartbeats 4000000
/-! PI: plain laws: is_integer, wrong_pair, __init__, lists of numbers, powers -/
namespace DL
open PySem PySem.Spec L2 DM

theorem isi_int {K : PySem.W.Frag} {ca : Str → Addr} {i : Int} : fIsi K ca [.int i, .ty "int"] = some (.bl true) := by
  show (PySem.W.kitOne K (.type "int") (.type "int")).map D.bl = _
  unfold PySem.W.kitOne
  rw [if_pos (by simp)] <;> rfl
theorem isi_tup {K : PySem.W.Frag} {ca : Str → Addr} {xs : List D} : fIsi K ca [.tup xs, .ty "tuple"] = some (.bl true) := by
  show (PySem.W.kitOne K (.type "tuple") (.type "tuple")).map D.bl = _
  unfold PySem.W.kitOne
  rw [if_pos (by simp)] <;> rfl
theorem isi_intbool {K : PySem.W.Frag} {ca : Str → Addr} {i : Int} : fIsi K ca [.int i, .ty "bool"] = some (.bl false) := by
  show (PySem.W.kitOne K (.type "int") (.type "bool")).map D.bl = _
  have : PySem.W.kitOne K (.type "int") (.type "bool") = some false := by
    rfl
  rw [this] <;> rfl
theorem does_is_integer {K : PySem.W.Frag} {ca : Str → Addr} : Does 3 (rd_is_integer K ca) sp_is_integer := by
  rintro ds Q (⟨i, lo, rfl, hQ⟩ | ⟨i, lo, hi, rfl, hQ⟩)
  · refine ⟨_, _, rfl, isi_int, _, _, rfl, rfl, _, _, rfl, isi_intbool, _, _, rfl, rfl, _, _, _, rfl, rfl, rfl, _, rfl, ?_⟩
    by_cases h : i < lo
    · rw [decide_eq_true h]
      rw [decide_eq_false (by omega)] at hQ
      exact hQ
    · rw [decide_eq_false h]
      rw [decide_eq_true (by omega)] at hQ
      exact ⟨_, _, _, rfl, rfl, rfl, _, rfl, hQ⟩
  · refine ⟨_, _, rfl, isi_int, _, _, rfl, rfl, _, _, rfl, isi_intbool, _, _, rfl, rfl, _, _, _, rfl, rfl, rfl, _, rfl, ?_⟩
    by_cases h : i < lo
    · rw [decide_eq_true h]
      rw [decide_eq_false (by omega)] at hQ
      exact hQ
    · rw [decide_eq_false h]
      refine ⟨_, _, _, rfl, rfl, rfl, _, rfl, _, _, _, rfl, rfl, rfl, ?_⟩
      have e : decide (lo ≤ i ∧ i ≤ hi) = decide (i ≤ hi) := by
        rw [decide_eq_decide]
        omega
      rw [e] at hQ
      exact hQ
theorem wrong_loop {K : PySem.W.Frag} {ca : Str → Addr} {R : Nat} {X0 : Ent} {Q : DEnv → Prop} {rt : D → Prop} (hQ : ∀ t1 t2, Q [X0, t1, t2]) : ∀ (w : List (Nat × Nat)) (n : Nat) (t1 t2 : Ent), (∀ p ∈ w, OkB R p.1 ∧ 1 ≤ p.2) →
    forL (fun _ => True) (gTupD 2 (gConsD (gN 1) (gConsD (gN 2) gNilD))) (dSeq (dIfS (dOr (dNot (dTru (oVal (dCB (fIsi K ca) (aoCons (oSlot 2) (aoCons (oVal (dC (.ty "tuple"))) aoNil)))))) (dTest (dOp fNe (oVal (dCB fLen (aoCons (oSlot 2) aoNil))) (oVal (dC (.int 2)))))) (dRet (dVar 1)) dNext) (dIfS (dOr (dNot (dTru (oVal (dApp sp_is_integer (aCons (dOp fIx (oSlot 2) (oVal (dC (.int 0)))) (aCons (dC (.int 2)) (aCons (dC (.int 100000000000000000000)) aNil))))))) (dNot (dTru (oVal (dApp sp_is_integer (aCons (dOp fIx (oSlot 2) (oVal (dC (.int 1)))) (aCons (dC (.int 1)) (aCons (dC .non) aNil)))))))) (dRet (dVar 1)) dNext))
      { nx := Q, rt := rt } (enumG n (w.map pairD)) [X0, t1, t2]
  | [], n, t1, t2, _ => ⟨trivial, hQ t1 t2⟩
  | p :: w, n, t1, t2, h => by
    have hp := h p List.mem_cons_self
    have h1 : decide ((2 : Int) ≤ (p.1 : Int) ∧ (p.1 : Int) ≤ 100000000000000000000) = true := by
      have a := hp.1.lo
      have b := hp.1.hi
      exact decide_eq_true ⟨by omega, by omega⟩
    have h2 : decide ((1 : Int) ≤ (p.2 : Int)) = true := decide_eq_true (by have := hp.2; omega)
    refine ⟨trivial, rfl, rfl, _, _, rfl, isi_tup, _, _, rfl, rfl, _, _, rfl, rfl, _, _, _, rfl, rfl, fNe_int 2 2, _, rfl, ?_⟩
    refine ⟨_, _, _, rfl, rfl, rfl, .inr ⟨_, _, _, rfl, ?_⟩⟩
    rw [h1]
    refine ⟨_, _, rfl, rfl, _, _, _, rfl, rfl, rfl, .inl ⟨_, _, rfl, ?_⟩⟩
    rw [h2]
    refine ⟨_, _, rfl, rfl, ?_⟩
    exact wrong_loop hQ w (n + 1) _ _ fun q hq => h q (List.mem_cons_of_mem _ hq)
theorem does_wrong_pair {K : PySem.W.Frag} {ca : Str → Addr} : Does 3 (rd_wrong_pair K ca) sp_wrong_pair := by
  rintro ds Q ⟨R, w, rfl, hw, hQ⟩
  refine ⟨_, _, rfl, rfl, ?_⟩
  rw [enumOf_eq]
  exact wrong_loop (R := R) (fun t1 t2 => hQ) w 0 _ _ hw.ok
theorem does_init : DoesI 3 rd_Number_init 1 "powers" in_Number := by
  rintro x ds Q ⟨R, w, rfl, hw, hQ⟩
  exact ⟨R, w, rfl, hw, _, _, _, rfl, rfl, rfl, _, rfl, rfl, _, rfl, hQ⟩
theorem numbers_loop {K : PySem.W.Frag} {ca : Str → Addr} {X0 X1 : Ent} {Q : DEnv → Prop} {rt : D → Prop} (hQ : ∀ t1 t2, Q [X0, X1, t1, t2]) : ∀ (ws : List (List (Nat × Nat))) (n : Nat) (t1 t2 : Ent),
    forL (fun _ => True) (gTupD 2 (gConsD (gN 2) (gConsD (gN 3) gNilD))) (dIfS (dNot (dTru (oVal (dCB (fIsi K ca) (aoCons (oSlot 3) (aoCons (oVal (dC (.cls "Number"))) aoNil)))))) dNever dNext) { nx := Q, rt := rt } (enumG n (ws.map num)) [X0, X1, t1, t2]
  | [], n, t1, t2 => ⟨trivial, hQ t1 t2⟩
  | w :: ws, n, t1, t2 => ⟨trivial, rfl, rfl, _, _, rfl, isi_num, _, _, rfl, rfl, numbers_loop hQ ws (n + 1) _ _⟩
theorem does_check_numbers {K : PySem.W.Frag} {ca : Str → Addr} : Does 4 (rd_check_numbers K ca) sp_check_numbers := by
  rintro ds Q ⟨ws, k, rfl, hl, hk, hQ⟩
  have e1 : decide (((ws.map num).length : Int) < k) = false := decide_eq_false (by rw [List.length_map]; omega)
  refine ⟨_, _, rfl, rfl, _, _, _, rfl, rfl, rfl, _, rfl, ?_⟩
  rw [e1]
  refine ⟨_, _, rfl, rfl, ?_⟩
  rw [enumOf_eq]
  exact numbers_loop (fun t1 t2 => hQ) ws 0 _ _
end DL
set_option Elab.async false
set_option linter.all false
set_option maxRecDepth 100000
set_option maxHeartbeats 4000000
/-! PJ: plain laws: share, meet, power -/
namespace DL
open PySem PySem.Spec L2 DM

theorem share_loop {R : Nat} (hR : ROk R) {X0 X2 : Ent} {Q : DEnv → Prop} {rt : D → Prop} : ∀ (ws : List (List (Nat × Nat))) (a : List (Nat × Nat)) (t : Ent), WF R a → (∀ x ∈ ws, WF R x) → (∀ w' t, WF R w' → val w' = foldV Nat.gcd (val a) ws → Q [X0, .sh (num w'), X2, t]) →
    forL (fun _ => True) (gN 3) (dAsg (dOwnOp "Number" sp_and (oSlot 1) (oSlot 3)) (gN 1)) { nx := Q, rt := rt } (ws.map num) [X0, .sh (num a), X2, t]
  | [], a, t, ha, _, hQ => ⟨trivial, hQ a t ha rfl⟩
  | w :: ws, a, t, ha, h, hQ => ⟨trivial, _, _, _, _, rfl, rfl, R, a, w, rfl, hR, ha, h w List.mem_cons_self, trivial, fun w' hw' hv =>
      share_loop hR ws w' _ hw' (fun x hx => h x (List.mem_cons_of_mem _ hx)) fun w2 t2 h2 hv2 => hQ w2 t2 h2 (by
        have hv : val w' = Nat.gcd (val a) (val w) := hv
        rw [hv2, hv] <;> rfl)⟩
theorem meet_loop {R : Nat} (hR : ROk R) {X0 : Ent} {Q : DEnv → Prop} {rt : D → Prop} : ∀ (ws : List (List (Nat × Nat))) (a : List (Nat × Nat)) (t : Ent), WF R a → (∀ x ∈ ws, WF R x) → (∀ w' t, WF R w' → val w' = foldV Nat.lcm (val a) ws → Q [X0, .sh (num w'), t]) →
    forL (fun _ => True) (gN 2) (dAsg (dOwnOp "Number" sp_or (oSlot 1) (oSlot 2)) (gN 1)) { nx := Q, rt := rt } (ws.map num) [X0, .sh (num a), t]
  | [], a, t, ha, _, hQ => ⟨trivial, hQ a t ha rfl⟩
  | w :: ws, a, t, ha, h, hQ => ⟨trivial, _, _, _, _, rfl, rfl, R, a, w, rfl, hR, ha, h w List.mem_cons_self, trivial, fun w' hw' hv =>
      meet_loop hR ws w' _ hw' (fun x hx => h x (List.mem_cons_of_mem _ hx)) fun w2 t2 h2 hv2 => hQ w2 t2 h2 (by
        have hv : val w' = Nat.lcm (val a) (val w) := hv
        rw [hv2, hv] <;> rfl)⟩
theorem does_share : Does 4 rd_share sp_shareB := by
  rintro ds Q ⟨R, w, ws, rfl, hR, hw, hws, hl, hQ⟩
  refine ⟨w :: ws, 1, rfl, by rw [List.length_cons]; omega, by rw [List.length_cons]; omega, ?_⟩
  refine ⟨_, rfl, Nat.succ_le_succ (Nat.zero_le _), rfl, _, rfl, ?_⟩
  exact share_loop hR ws w _ hw hws fun w' t h1 h2 => hQ w' h1 h2
theorem wf_nil {R : Nat} : WF R [] := ⟨fun _ h => (nomatch h), Nat.zero_le _⟩
theorem does_meet : Does 3 rd_meet sp_meetB := by
  rintro ds Q ⟨R, ws, rfl, hR, hws, hl, hQ⟩
  refine ⟨ws, 0, rfl, by omega, by omega, ?_⟩
  refine ⟨Nat.zero_le _, Nat.zero_le _, R, [], rfl, wf_nil, _, rfl, ?_⟩
  exact meet_loop hR ws [] _ wf_nil hws fun w' t h1 h2 => hQ w' h1 h2
theorem val_pow (k : Nat) : ∀ (w : List (Nat × Nat)), val (w.map fun p => (p.1, p.2 * k)) = val w ^ k
  | [] => (Nat.one_pow k).symm
  | p :: w => by
    show p.1 ^ (p.2 * k) * val _ = (p.1 ^ p.2 * val w) ^ k
    rw [val_pow k w, Nat.mul_pow, Nat.pow_mul]
theorem does_power : Does 5 rd_power sp_power := by
  rintro ds Q ⟨R, w, k, rfl, hR, hw, hk, hQ⟩
  have hk0 : decide ((0 : Int) ≤ (k : Int)) = true := decide_eq_true (by omega)
  refine ⟨w, rfl, .inl ⟨_, _, rfl, ?_⟩⟩
  rw [hk0]
  refine ⟨_, _, rfl, rfl, _, _, _, rfl, rfl, _, rfl, le_line (by rw [List.length_map]; have := hw.ln; omega), ?_⟩
  show lcL _ [3, 4] _ _ _ _ (w.map pairD) [] [.sh (num w), .sh (.int k), .un, .un, .un]
  have fin : ∀ w', WF R w' → val w' = val w ^ k → spMake "Number" (inStar 0 in_Number) (w'.map pairD) (fun d => Q d) DX0 := fun w' h1 h2 => ⟨Nat.zero_le _, by rw [List.drop_zero, List.length_map]; exact le_line (by have := h1.ln; omega), R, w', rfl, h1, hQ w' h1 h2⟩
  by_cases h : 0 < k
  · refine lcL_pairs (f := fun p => some (pairD (p.1, p.2 * k))) trivial (fun p hp K1 hK => ?_) ?_
    · refine ⟨_, _, _, rfl, rfl, rfl, _, rfl, ?_⟩
      rw [int_keep, decide_eq_true h]
      have e1 : (p.2 : Int) * (k : Int) = ((p.2 * k : Nat) : Int) := by simp
      have e2 : fMul (.int p.2) (.int k) = some (.int (p.2 * k : Nat)) := by rw [fMul_small (.inr (by omega)), e1]
      exact ⟨_, _, _, rfl, rfl, e2, len_line rfl, hK⟩
    · have e3 : ([] ++ w.filterMap fun p => some (pairD (p.1, p.2 * k))) = (w.map fun p => (p.1, p.2 * k)).map pairD := by
        rw [List.nil_append, fm_some, List.map_map]
        rfl
      rw [e3]
      refine ⟨_, _, rfl, rfl, fin _ ⟨fun p hp => ?_, by rw [List.length_map]; exact hw.ln⟩ (val_pow k w)⟩
      obtain ⟨q, hq, e⟩ := List.mem_map.mp hp
      rw [← e]
      exact ⟨(hw.ok q hq).1, Nat.mul_pos (hw.ok q hq).2 h⟩
  · have h0 : k = 0 := by omega
    refine lcL_pairs (f := fun p => none) trivial (fun p hp K1 hK => ?_) ?_
    · refine ⟨_, _, _, rfl, rfl, rfl, _, rfl, ?_⟩
      rw [int_keep, decide_eq_false h]
      exact hK
    · have e3 : ([] ++ w.filterMap fun p => (none : Option D)) = ([] : List (Nat × Nat)).map pairD := by simp
      rw [e3]
      exact ⟨_, _, rfl, rfl, fin [] wf_nil (by rw [h0, Nat.pow_zero] <;> rfl)⟩
end DL
set_option Elab.async false
set_option linter.all false
set_option maxRecDepth 100000
set_option maxHeartbeats 4000000
/-! MI: a coprime base for any writings; laws of gcd and lcm over it -/
namespace DL
open PySem PySem.Spec L2 DM

theorem refd_ex {xs : List Nat} : ∀ (m : Nat) (wt fd : List Nat), rMeas wt fd = m → RInv xs wt fd → ∃ bs, PC bs ∧ ∀ x ∈ xs, 1 < x → Mon bs x := by
  intro m
  induction m using Nat.strongRecOn with
  | _ m ih =>
    intro wt fd hm h
    cases wt with
    | nil => exact ⟨fd, ⟨h.co, fun b hb => h.gt b (by simpa using hb)⟩, fun x hx h1 => (h.mon x hx h1).mono fun s hs => by simpa using hs⟩
    | cons a wt =>
      by_cases hc : ∀ f ∈ fd, Nat.gcd a f ≤ 1
      · exact ih _ (by rw [← hm]; exact rMeas_move) wt (fd ++ [a]) rfl (h.moved hc)
      · have : ∃ f, f ∈ fd ∧ 1 < Nat.gcd a f := by
          apply Classical.byContradiction
          intro hn
          exact hc fun f hf => Nat.le_of_not_lt fun z => hn ⟨f, hf, z⟩
        obtain ⟨f, hf, hg⟩ := this
        obtain ⟨f1, f2, e⟩ := List.append_of_mem hf
        subst e
        have hp := h.parted hg
        exact ih _ (by rw [← hm]; exact rMeas_part hp.2 hp.1.gt) _ _ rfl hp.1
/-- one base for three writings -/
theorem base3 {R : Nat} {w1 w2 w3 : List (Nat × Nat)} (h1 : WF R w1) (h2 : WF R w2) (h3 : WF R w3) : ∃ bs es fs gs, PC bs ∧ es.length = bs.length ∧ fs.length = bs.length ∧ gs.length = bs.length ∧ pp bs es = val w1 ∧ pp bs fs = val w2 ∧ pp bs gs = val w3 := by
  have hx : ∀ x ∈ w1.map (·.1) ++ (w2.map (·.1) ++ w3.map (·.1)), 1 < x ∧ x ≤ 10 ^ 20 := fun x hx => by
    rcases List.mem_append.mp hx with hx | hx
    · obtain ⟨p, hp, e⟩ := List.mem_map.mp hx
      rw [← e]
      exact ⟨(h1.ok p hp).1.lo, (h1.ok p hp).1.hi⟩
    · rcases List.mem_append.mp hx with hx | hx
      · obtain ⟨p, hp, e⟩ := List.mem_map.mp hx
        rw [← e]
        exact ⟨(h2.ok p hp).1.lo, (h2.ok p hp).1.hi⟩
      · obtain ⟨p, hp, e⟩ := List.mem_map.mp hx
        rw [← e]
        exact ⟨(h3.ok p hp).1.lo, (h3.ok p hp).1.hi⟩
  obtain ⟨bs, hb, hm⟩ := refd_ex _ _ [] rfl (RInv.start fun x h => (hx x h).2)
  have mon : ∀ w : List (Nat × Nat), (∀ p ∈ w, Mon bs p.1) → Mon bs (val w) := by
    intro w
    induction w with
    | nil => exact fun _ => .one
    | cons p w ih => exact fun h => ((h p List.mem_cons_self).pow p.2).prod (ih fun q hq => h q (List.mem_cons_of_mem _ hq))
  have m1 := (mon w1 fun p hp => hm p.1 (by simp; exact .inl ⟨p.2, hp⟩) (h1.ok p hp).1.lo).pp
  have m2 := (mon w2 fun p hp => hm p.1 (by simp; exact .inr (.inl ⟨p.2, hp⟩)) (h2.ok p hp).1.lo).pp
  have m3 := (mon w3 fun p hp => hm p.1 (by simp; exact .inr (.inr ⟨p.2, hp⟩)) (h3.ok p hp).1.lo).pp
  obtain ⟨es, a1, a2⟩ := m1
  obtain ⟨fs, b1, b2⟩ := m2
  obtain ⟨gs, c1, c2⟩ := m3
  exact ⟨bs, es, fs, gs, hb, a1, b1, c1, a2, b2, c2⟩
theorem gcd_lcm3 {R : Nat} {w1 w2 w3 : List (Nat × Nat)} (h1 : WF R w1) (h2 : WF R w2) (h3 : WF R w3) : Nat.gcd (val w1) (Nat.lcm (val w2) (val w3)) = Nat.lcm (Nat.gcd (val w1) (val w2)) (Nat.gcd (val w1) (val w3)) := by
  obtain ⟨bs, es, fs, gs, hb, a1, b1, c1, a2, b2, c2⟩ := base3 h1 h2 h3
  rw [← a2, ← b2, ← c2, ← pp_lcm hb b1 c1, ← pp_gcd hb a1 (zw_len b1 c1), ← pp_gcd hb a1 b1, ← pp_gcd hb a1 c1, ← pp_lcm hb (zw_len a1 b1) (zw_len a1 c1)]
  congr 1
  apply List.ext_getElem
  · simp
    omega
  · intro i g1 g2
    simp
    omega
theorem lcm_gcd3 {R : Nat} {w1 w2 w3 : List (Nat × Nat)} (h1 : WF R w1) (h2 : WF R w2) (h3 : WF R w3) : Nat.lcm (val w1) (Nat.gcd (val w2) (val w3)) = Nat.gcd (Nat.lcm (val w1) (val w2)) (Nat.lcm (val w1) (val w3)) := by
  obtain ⟨bs, es, fs, gs, hb, a1, b1, c1, a2, b2, c2⟩ := base3 h1 h2 h3
  rw [← a2, ← b2, ← c2, ← pp_gcd hb b1 c1, ← pp_lcm hb a1 (zw_len b1 c1), ← pp_lcm hb a1 b1, ← pp_lcm hb a1 c1, ← pp_gcd hb (zw_len a1 b1) (zw_len a1 c1)]
  congr 1
  apply List.ext_getElem
  · simp
    omega
  · intro i g1 g2
    simp
    omega
end DL
set_option Elab.async false
set_option linter.all false
set_option maxRecDepth 100000
set_option maxHeartbeats 4000000
/-! PK: readings by what their values are (the environment stays) -/
namespace DL
open PySem PySem.Spec L2 DM

def EV (t : TD) (e : DEnv) (P : D → Prop) : Prop := ∀ Q : D → DEnv → Prop, (∀ d, P d → Q d e) → t e Q
def OV (t : TDO) (e : DEnv) (P : D → Prop) : Prop := ∀ Q : Opd → DEnv → Prop, (∀ a d, look e a = some d → P d → Q a e) → t e Q
def TV (t : TDT) (e : DEnv) (P : Bool → Prop) : Prop := ∀ Q : Bool → DEnv → Prop, (∀ b, P b → Q b e) → t e Q
def AV (t : TDF) (e : DEnv) (P : List D → Prop) : Prop := ∀ Q : List D → DEnv → Prop, (∀ d, P d → Q d e) → t e Q
def AOV (t : TDA) (e : DEnv) (P : List D → Prop) : Prop := ∀ Q : List Opd → DEnv → Prop, (∀ as ds, lookL e as = some ds → P ds → Q as e) → t e Q
section
variable {e : DEnv} {t u : TD} {ta tb : TDO} {tt tu : TDT} {P P' R S : D → Prop} {i : Nat} {d : D} {xs : List D}
theorem EV.imp (h : EV t e P) (w : ∀ d, P d → P' d) : EV t e P' := fun Q hq => h Q fun d hd => hq d (w d hd)
theorem OV.imp (h : OV ta e P) (w : ∀ d, P d → P' d) : OV ta e P' := fun Q hq => h Q fun a d hl hd => hq a d hl (w d hd)
theorem TV.imp {B B' : Bool → Prop} (h : TV tt e B) (w : ∀ b, B b → B' b) : TV tt e B' := fun Q hq => h Q fun b hb => hq b (w b hb)
theorem ev_var (h : e[i]? = some (.sh d)) : EV (dVar i) e (· = d) := fun Q hq => by
  unfold dVar
  rw [h]
  exact hq d rfl
theorem ev_c : EV (dC d) e (· = d) := fun Q hq => hq d rfl
theorem ov_sh (h : e[i]? = some (.sh d)) : OV (oSlot i) e (· = d) := fun Q hq => by
  unfold oSlot
  rw [h]
  exact hq (.slot i) d (by simp [look, h]) rfl
theorem ov_ol (h : e[i]? = some (.ol xs)) : OV (oSlot i) e (· = .lst xs) := fun Q hq => by
  unfold oSlot
  rw [h]
  exact hq (.slot i) _ (by simp [look, h]) rfl
theorem ov_val (h : EV t e P) : OV (oVal t) e P := fun Q hq => h _ fun d hd => hq (.val d) d rfl hd
theorem ev_op {f : D → D → Option D} (ha : OV ta e P) (hb : OV tb e R) (h : ∀ x y, P x → R y → ∃ z, f x y = some z ∧ S z) : EV (dOp f ta tb) e S := fun Q hq =>
  ha _ fun a x hx px => hb _ fun b y hy ry => by
    obtain ⟨z, h1, h2⟩ := h x y px ry
    exact ⟨x, y, z, hx, hy, h1, hq z h2⟩
theorem tv_test {B : Bool → Prop} (h : EV t e fun d => ∃ b, d = .bl b ∧ B b) : TV (dTest t) e B := fun Q hq => h _ fun d ⟨b, h1, h2⟩ => ⟨b, h1, hq b h2⟩
theorem tv_bl {b : Bool} (h : EV t e (· = .bl b)) : TV (dTest t) e (· = b) := tv_test (h.imp fun d hd => ⟨b, hd, rfl⟩)
theorem tv_tru {B : Bool → Prop} (h : OV ta e fun d => ∃ b, truD d = some b ∧ B b) : TV (dTru ta) e B := fun Q hq => h _ fun a d hl ⟨b, h1, h2⟩ => ⟨d, b, hl, h1, hq b h2⟩
theorem tv_trub {b : Bool} (h : OV ta e (· = .bl b)) : TV (dTru ta) e (· = b) := tv_tru (h.imp fun d hd => ⟨b, by rw [hd] <;> rfl, rfl⟩)
theorem tv_or {b c : Bool} (h : TV tt e (· = b)) (h2 : TV tu e (· = c)) : TV (dOr tt tu) e (· = (b || c)) := fun Q hq => h _ fun x hx => by
  subst hx
  cases x with
  | true => exact hq _ rfl
  | false => exact h2 _ fun y hy => hq y hy
theorem tv_and {b c : Bool} (h : TV tt e (· = b)) (h2 : TV tu e (· = c)) : TV (dAnd tt tu) e (· = (b && c)) := fun Q hq => h _ fun x hx => by
  subst hx
  cases x with
  | true => exact h2 _ fun y hy => hq y hy
  | false => exact hq _ rfl
theorem tv_not {b : Bool} (h : TV tt e (· = b)) : TV (dNot tt) e (· = !b) := fun Q hq => h _ fun x hx => hq _ (by rw [hx])
theorem ev_and {b c : Bool} (h : EV t e (· = .bl b)) (h2 : EV u e (· = .bl c)) : EV (dAndV t u) e (· = .bl (b && c)) := fun Q hq => h _ fun x hx => ⟨b, hx, by
  cases b with
  | true => exact h2 _ fun y hy => hq y hy
  | false => exact hq _ rfl⟩
theorem ev_or {b c : Bool} (h : EV t e (· = .bl b)) (h2 : EV u e (· = .bl c)) : EV (dOrV t u) e (· = .bl (b || c)) := fun Q hq => h _ fun x hx => ⟨b, hx, by
  cases b with
  | true => exact hq _ rfl
  | false => exact h2 _ fun y hy => hq y hy⟩
theorem ev_not {b : Bool} (h : EV t e (· = .bl b)) : EV (dNotV t) e (· = .bl (!b)) := fun Q hq => h _ fun x hx => ⟨b, hx, hq _ rfl⟩
/-! statements -/
variable {D' : DEnds} {T U : TDS}
theorem dif_false (h : TV tt e (· = false)) (h2 : U D' e) : dIfS tt T U D' e := h _ fun b hb => by
  subst hb
  exact h2
theorem dif_true (h : TV tt e (· = true)) (h2 : T D' e) : dIfS tt T U D' e := h _ fun b hb => by
  subst hb
  exact h2
theorem dret (h : EV t e P) (h2 : ∀ d, P d → D'.rt d) : dRet t D' e := h _ fun d hd => h2 d hd
theorem dseq (h : T { D' with nx := U D' } e) : dSeq T U D' e := h
/-! rows of arguments -/
theorem av_nil : AV aNil e (· = []) := fun Q hq => hq [] rfl
theorem av_cons {tf : TDF} {L : List D → Prop} (h : EV t e P) (h2 : AV tf e L) : AV (aCons t tf) e (fun ds => ∃ d r, ds = d :: r ∧ P d ∧ L r) := fun Q hq => h _ fun d hd => h2 _ fun r hr => hq _ ⟨d, r, rfl, hd, hr⟩
theorem ev_app {sp : DSp} {tf : TDF} {L : List D → Prop} (h : AV tf e L) (h2 : ∀ ds, L ds → ∀ Q : D → Prop, (∀ d, P d → Q d) → sp ds Q DX0) : EV (dApp sp tf) e P := fun Q hq => h _ fun ds hl => h2 ds hl _ fun d hd => hq d hd
end
/-! ### numbers -/
def Nv (R v : Nat) (d : D) : Prop := ∃ w, d = num w ∧ WF R w ∧ val w = v
section
variable {e : DEnv} {t u t3 : TD} {ta tb : TDO} {R x y z : Nat}
theorem nv_op {f : Nat → Nat → Nat} {ok : Nat → Nat → Prop} (hR : ROk R) (hk : ok x y) (ha : OV ta e (Nv R x)) (hb : OV tb e (Nv R y)) : EV (dOwnOp "Number" (spOp f ok) ta tb) e (Nv R (f x y)) := fun Q hq =>
  ha _ fun a d h1 ⟨w, e1, e2, e3⟩ => hb _ fun b d2 h2 ⟨w2, f1, f2, f3⟩ => by
    subst e1 f1 e3 f3
    exact ⟨_, _, _, _, h1, h2, R, w, w2, rfl, hR, e2, f2, hk, fun w' h3 h4 => hq _ ⟨w', rfl, h3, h4⟩⟩
theorem nv_mul (hR : ROk R) (ha : OV ta e (Nv R x)) (hb : OV tb e (Nv R y)) : EV (dOwnOp "Number" sp_mul ta tb) e (Nv R (x * y)) := nv_op hR trivial ha hb
theorem nv_and (hR : ROk R) (ha : OV ta e (Nv R x)) (hb : OV tb e (Nv R y)) : EV (dOwnOp "Number" sp_and ta tb) e (Nv R (Nat.gcd x y)) := nv_op hR trivial ha hb
theorem nv_or (hR : ROk R) (ha : OV ta e (Nv R x)) (hb : OV tb e (Nv R y)) : EV (dOwnOp "Number" sp_or ta tb) e (Nv R (Nat.lcm x y)) := nv_op hR trivial ha hb
theorem nv_div (hR : ROk R) (ha : OV ta e (Nv R x)) (hb : OV tb e (Nv R y)) (h : y ∣ x) : EV (dOwnOp "Number" sp_floordiv ta tb) e (Nv R (x / y)) := nv_op hR h ha hb
theorem nv_eq (hR : ROk R) (ha : OV ta e (Nv R x)) (hb : OV tb e (Nv R y)) : EV (dOwnOp "Number" sp_eq ta tb) e (· = .bl (decide (x = y))) := fun Q hq =>
  ha _ fun a d h1 ⟨w, e1, e2, e3⟩ => hb _ fun b d2 h2 ⟨w2, f1, f2, f3⟩ => by
    subst e1 f1 e3 f3
    exact ⟨_, _, _, _, h1, h2, R, w, w2, rfl, hR, e2, f2, hq _ rfl⟩
theorem nv_ne (hR : ROk R) (ha : OV ta e (Nv R x)) (hb : OV tb e (Nv R y)) : EV (dOwnNe "Number" sp_eq ta tb) e (· = .bl (!decide (x = y))) := fun Q hq =>
  ha _ fun a d h1 ⟨w, e1, e2, e3⟩ => hb _ fun b d2 h2 ⟨w2, f1, f2, f3⟩ => by
    subst e1 f1 e3 f3
    exact ⟨_, _, _, _, h1, h2, R, w, w2, rfl, hR, e2, f2, _, rfl, hq _ rfl⟩
theorem nv_divides (hR : ROk R) (ha : EV t e (Nv R x)) (hb : EV u e (Nv R y)) : EV (dApp sp_divides (aCons t (aCons u aNil))) e (· = .bl (decide (x ∣ y))) := fun Q hq =>
  ha _ fun d ⟨w, e1, e2, e3⟩ => hb _ fun d2 ⟨w2, f1, f2, f3⟩ => by
    subst e1 f1 e3 f3
    exact ⟨R, w, w2, rfl, hR, e2, f2, hq _ rfl⟩
theorem star_le {n : Nat} (h : Nat.ble n 1000 = true) : n ≤ sizeLine := by
  have := Nat.le_of_ble_eq_true h
  rw [sizeLine_eq]
  omega
theorem nv_share2 (hR : ROk R) (ha : EV t e (Nv R x)) (hb : EV u e (Nv R y)) : EV (dApp sp_share (aCons t (aCons u aNil))) e (Nv R (Nat.gcd x y)) := fun Q hq =>
  ha _ fun d ⟨w, e1, e2, e3⟩ => hb _ fun d2 ⟨w2, f1, f2, f3⟩ => by
    subst e1 f1 e3 f3
    exact ⟨Nat.zero_le _, star_le rfl, R, w, [w2], rfl, hR, e2, fun v hv => by rcases List.mem_singleton.mp hv with rfl; exact f2, Nat.le_of_ble_eq_true rfl, fun w' h1 h2 => hq _ ⟨w', rfl, h1, h2⟩⟩
theorem nv_share3 (hR : ROk R) (ha : EV t e (Nv R x)) (hb : EV u e (Nv R y)) (hc : EV t3 e (Nv R z)) : EV (dApp sp_share (aCons t (aCons u (aCons t3 aNil)))) e (Nv R (Nat.gcd (Nat.gcd x y) z)) := fun Q hq =>
  ha _ fun d ⟨w, e1, e2, e3⟩ => hb _ fun d2 ⟨w2, f1, f2, f3⟩ => hc _ fun d3 ⟨w3, g1, g2, g3⟩ => by
    subst e1 f1 e3 f3 g1 g3
    refine ⟨Nat.zero_le _, star_le rfl, R, w, [w2, w3], rfl, hR, e2, fun v hv => ?_, Nat.le_of_ble_eq_true rfl, fun w' h1 h2 => hq _ ⟨w', rfl, h1, h2⟩⟩
    rcases List.mem_cons.mp hv with rfl | hv
    · exact f2
    · rcases List.mem_singleton.mp hv with rfl
      exact g2
theorem nv_meet2 (hR : ROk R) (ha : EV t e (Nv R x)) (hb : EV u e (Nv R y)) : EV (dApp sp_meet (aCons t (aCons u aNil))) e (Nv R (Nat.lcm x y)) := fun Q hq =>
  ha _ fun d ⟨w, e1, e2, e3⟩ => hb _ fun d2 ⟨w2, f1, f2, f3⟩ => by
    subst e1 f1 e3 f3
    refine ⟨Nat.zero_le _, star_le rfl, R, [w, w2], rfl, hR, fun v hv => ?_, Nat.le_of_ble_eq_true rfl, fun w' h1 h2 => hq _ ⟨w', rfl, h1, ?_⟩⟩
    · rcases List.mem_cons.mp hv with rfl | hv
      · exact e2
      · rcases List.mem_singleton.mp hv with rfl
        exact f2
    · rw [h2]
      show Nat.lcm (Nat.lcm 1 (val w)) (val w2) = _
      rw [Nat.lcm_one_left]
theorem nv_meet3 (hR : ROk R) (ha : EV t e (Nv R x)) (hb : EV u e (Nv R y)) (hc : EV t3 e (Nv R z)) : EV (dApp sp_meet (aCons t (aCons u (aCons t3 aNil)))) e (Nv R (Nat.lcm (Nat.lcm x y) z)) := fun Q hq =>
  ha _ fun d ⟨w, e1, e2, e3⟩ => hb _ fun d2 ⟨w2, f1, f2, f3⟩ => hc _ fun d3 ⟨w3, g1, g2, g3⟩ => by
    subst e1 f1 e3 f3 g1 g3
    refine ⟨Nat.zero_le _, star_le rfl, R, [w, w2, w3], rfl, hR, fun v hv => ?_, Nat.le_of_ble_eq_true rfl, fun w' h1 h2 => hq _ ⟨w', rfl, h1, ?_⟩⟩
    · rcases List.mem_cons.mp hv with rfl | hv
      · exact e2
      · rcases List.mem_cons.mp hv with rfl | hv
        · exact f2
        · rcases List.mem_singleton.mp hv with rfl
          exact g2
    · rw [h2]
      show Nat.lcm (Nat.lcm (Nat.lcm 1 (val w)) (val w2)) (val w3) = _
      rw [Nat.lcm_one_left]
theorem nv_power {k : Nat} (hR : ROk R) (ha : EV t e (Nv R x)) (hb : EV u e (· = .int k)) (hk : k < 2 ^ 64) : EV (dApp sp_power (aCons t (aCons u aNil))) e (Nv R (x ^ k)) := fun Q hq =>
  ha _ fun d ⟨w, e1, e2, e3⟩ => hb _ fun d2 f1 => by
    subst e1 f1 e3
    exact ⟨R, w, k, rfl, hR, e2, hk, fun w' h1 h2 => hq _ ⟨w', rfl, h1, h2⟩⟩
theorem nv_one : EV (dApp0 sp_Number) e (Nv R 1) := fun Q hq => ⟨Nat.zero_le _, star_le rfl, R, [], rfl, wf_nil, hq _ ⟨[], rfl, wf_nil, rfl⟩⟩
theorem nv_ov (h : EV t e (Nv R x)) : OV (oVal t) e (Nv R x) := ov_val h
theorem nv_slot {i : Nat} {w : List (Nat × Nat)} (h : e[i]? = some (.sh (num w))) (hw : WF R w) : OV (oSlot i) e (Nv R (val w)) := (ov_sh h).imp fun d hd => ⟨w, hd, hw, rfl⟩
theorem nv_var {i : Nat} {w : List (Nat × Nat)} (h : e[i]? = some (.sh (num w))) (hw : WF R w) : EV (dVar i) e (Nv R (val w)) := (ev_var h).imp fun d hd => ⟨w, hd, hw, rfl⟩
end
section
variable {e : DEnv} {t u : TD} {ta tb : TDO} {tt tu : TDT} {tf : TDF} {i : Nat} {d a b z : D} {ds xs : List D} {D' : DEnds} {T U : TDS} {P : D → Prop}
theorem dif_f {k : Bool} (h : TV tt e (· = k)) (hb : k = false) (h2 : U D' e) : dIfS tt T U D' e := dif_false (hb ▸ h) h2
theorem dif_t {k : Bool} (h : TV tt e (· = k)) (hb : k = true) (h2 : T D' e) : dIfS tt T U D' e := dif_true (hb ▸ h) h2
theorem av1 (h : EV t e (· = d)) (h2 : AV tf e (· = ds)) : AV (aCons t tf) e (· = d :: ds) := fun Q hq => h _ fun x hx => h2 _ fun r hr => hq _ (by rw [hx, hr])
theorem ev_lst1 (h : AV tf e (· = ds)) (hl : Nat.ble ds.length 1000 = true) : EV (dNew (fLst tf)) e (· = .lst ds) := fun Q hq => h _ fun x hx => by
  subst hx
  exact ⟨len_line hl, hq _ rfl⟩
theorem ev_tup1 (h : AV tf e (· = ds)) (hl : Nat.ble ds.length 1000 = true) : EV (dTup tf) e (· = .tup ds) := fun Q hq => h _ fun x hx => by
  subst hx
  exact ⟨len_line hl, hq _ rfl⟩
theorem ev_op1 {f : D → D → Option D} (ha : OV ta e (· = a)) (hb : OV tb e (· = b)) (h : f a b = some z) : EV (dOp f ta tb) e (· = z) := ev_op ha hb fun x y hx hy => ⟨z, by rw [hx, hy]; exact h, rfl⟩
theorem ev_rep {k : Int} (ha : OV ta e (· = .lst xs)) (hb : OV tb e (· = .int k)) (hk : -(2 ^ 63) ≤ k ∧ k < 2 ^ 63) (hl : Nat.ble (xs.length * k.toNat) 1000 = true) : EV (dNew (fRep ta tb)) e (· = .lst (List.replicate k.toNat xs).flatten) := fun Q hq =>
  ha _ fun o1 d1 l1 e1 => hb _ fun o2 d2 l2 e2 => by
    subst e1 e2
    exact ⟨xs, k, l1, l2, hk, star_le hl, hq _ rfl⟩
theorem dasg (h : EV t e P) (h2 : ∀ d, P d → D'.nx (e.set i (.sh d))) : dAsg t (gN i) D' e := h _ fun d hd => h2 d hd
theorem dasg1 (h : EV t e (· = d)) (h2 : D'.nx (e.set i (.sh d))) : dAsg t (gN i) D' e := h _ fun x hx => by
  subst hx
  exact h2
theorem dexpr (h : EV t e P) (h2 : D'.nx e) : dExpr t D' e := h _ fun d hd => h2
theorem dret1 (h : EV t e (· = d)) (h2 : D'.rt d) : dRet t D' e := h _ fun x hx => by
  subst hx
  exact h2
theorem ev_if {c : TDT} {k : Bool} (h : TV c e (· = k)) (h1 : k = true → EV t e P) (h2 : k = false → EV u e P) : EV (dIf c t u) e P := fun Q hq => h _ fun x hx => by
  subst hx
  cases x with
  | true => exact h1 rfl _ hq
  | false => exact h2 rfl _ hq
theorem sif {V : TDS} {k : Bool} (h : TV tt e (· = k)) (hb : k = false) (h2 : V D' e) : dSeq (dIfS tt T dNext) V D' e := dif_f (D' := { D' with nx := V D' }) h hb h2
theorem sasg {V : TDS} (h : EV t e P) (h2 : ∀ d, P d → V D' (e.set i (.sh d))) : dSeq (dAsg t (gN i)) V D' e := h _ fun d hd => h2 d hd
theorem sasg1 {V : TDS} (h : EV t e (· = d)) (h2 : V D' (e.set i (.sh d))) : dSeq (dAsg t (gN i)) V D' e := dasg1 (D' := { D' with nx := V D' }) h h2
theorem sexpr {V : TDS} (h : EV t e P) (h2 : V D' e) : dSeq (dExpr t) V D' e := h _ fun d hd => h2
theorem dretb {k : Bool} (h : EV t e (· = .bl k)) (hb : k = true) (h2 : D'.rt (.bl true)) : dRet t D' e := h _ fun x hx => by
  subst hx hb
  exact h2
end
end DL
set_option Elab.async false
set_option linter.all false
set_option maxRecDepth 100000
set_option maxHeartbeats 4000000
set_option exponentiation.threshold 10000
/-! DY: the draws' source, told on data -/
namespace DL
open PySem PySem.Spec L2
/-- what a draw does with the source's list -/
def spD : Sp := fun vs H Q _ => ∃ (p : Addr) (d s c many : Int), vs = [.ref p, .int many] ∧ H p = some (.lst [.int d, .int s, .int c]) ∧ 0 < many ∧ many.natAbs < 2 ^ 8000 ∧
  ∀ (r d' s' c' : Int) (H' : Hp), 0 ≤ r → r < many → (∀ b u, b ≠ p → H b = some u → H' b = some u) → H' p = some (.lst [.int d', .int s', .int c']) → Q (.int r) H'
/-- what makes a source -/
def spS : Sp := fun vs H Q _ => ∃ i : Int, vs = [.int i] ∧ ∀ (p : Addr) (d s c : Int), H p = none → Q (.ref p) (upd H p (.lst [.int d, .int s, .int c]))
def sp_law_draw : DSp := fun ds Q _ => ∃ many : Nat, ds = [.src, .int many] ∧ 0 < many ∧ many < 2 ^ 8000 ∧ ∀ r : Nat, r < many → Q (.int r)
def sp_law_source : DSp := fun ds Q _ => ∃ i : Int, ds = [.int i] ∧ Q .src
section
variable {P : Program} {w : World} {K : PySem.W.Frag} {mg : Str → Option Value} {base : Heap} {ca : Str → Addr} {k : Nat} {f : Addr} {spL : Sp}
theorem draw_lsp (F : FnR P w K mg base CX0 k f spD) : FnR P w K mg base CX0 k f (LSp K ca sp_law_draw) := by
  refine (fr_src F).imp fun vs H Q E ⟨B, ds, Q', hB, hd, ⟨many, e, h0, hm, hQ⟩, imp⟩ => ?_
  subst e
  obtain ⟨v, r, e1, ⟨p, e2, hk, hp⟩, v2, r2, e3, h2, h3⟩ := hd
  have h2' : v2 = .int many := h2
  have h3' : r2 = [] := h3
  subst h2' h3' e3 e2 e1
  refine ⟨p, _, rfl, hp, fun d s c => ⟨p, d, s, c, many, rfl, upd_same, by omega, by rw [Int.natAbs_natCast]; exact hm, fun r d' s' c' H' hr0 hr hkeep hp' => ⟨d', s', c', hp', ?_⟩⟩⟩
  have er : r = ((r.toNat : Nat) : Int) := by omega
  rw [er]
  refine imp _ (hQ r.toNat (by omega)) _ _ (fun b u hu => ?_) rfl
  by_cases hb : b = p
  · subst hb
    rw [upd_same]
    exact hp.symm.trans hu
  · rw [upd_ne hb]
    exact hkeep b u hb (by rw [upd_ne hb]; exact hu)
/-- the new list, seen as the opaque source -/
theorem fr_new (F : FnR P w K mg base CX0 k f spL) : FnR P w K mg base CX0 k f (fun vs H Q E => spL vs H (fun v H' => ∃ (p : Addr) (d s c : Int), v = .ref p ∧ H' p = some (.lst [.int d, .int s, .int c]) ∧ Q v (upd H' p (srcH p))) E) := by
  rintro A outer s H us vs Q E hr e0 r h
  refine codeAny_mono (F A outer s H us vs _ E hr e0 r h) fun r s' hq => ?_
  cases r with
  | error e => exact hq
  | ok fl =>
    cases fl with
    | ret u =>
      obtain ⟨v, H', q1, q2, q3, q4, q5, p, d, s', c, ev, q6, q7⟩ := hq
      have mu2 : Mut (H' p) := by rw [q6]; exact trivial
      have new2 := src_obj q4 q6
      exact ⟨v, _, q1, q2, q3.trans (Un.write mu2 (.inl rfl) (fun b u _ q => q) new2.2.1), q4.write mu2 (.inl rfl) (fun b u _ q => q) new2.2.1 new2, q5, q7⟩
    | next => exact hq
    | brk => exact hq
    | cont => exact hq
theorem source_lsp (F : FnR P w K mg base CX0 k f spS) : FnR P w K mg base CX0 k f (LSp K ca sp_law_source) := by
  refine (fr_new F).imp fun vs H Q E ⟨B, ds, Q', hB, hd, ⟨i, e, hQ⟩, imp⟩ => ?_
  subst e
  obtain ⟨v, r, e1, h1, h3⟩ := hd
  have h1' : v = .int i := h1
  have h3' : r = [] := h3
  subst h1' h3' e1
  refine ⟨i, rfl, fun p d s c hp => ⟨p, d, s, c, rfl, upd_same, ?_⟩⟩
  have e2 : upd (upd H p (.lst [.int d, .int s, .int c])) p (srcH p) = upd H p (srcH p) := upd_upd
  rw [e2]
  exact imp .src hQ _ _ (same_new hp) ⟨p, rfl, fun z => hB p z hp, upd_same⟩
/-- a source, told of its list -/
def sp_law_sourceL : DSp := fun ds Q _ => ∃ i : Int, ds = [.int i] ∧ ∀ d s c : Int, Q (.lst [.int d, .int s, .int c])
theorem source_of (F : FnR P w K mg base CX0 k f (LSp K ca sp_law_sourceL)) : FnR P w K mg base CX0 k f (LSp K ca sp_law_source) := by
  refine (fr_new F).imp fun vs H Q E ⟨B, ds, Q', hB, hd, ⟨i, e, hQ⟩, imp⟩ => ?_
  subst e
  obtain ⟨v, r, e1, h1, h3⟩ := hd
  have h1' : v = .int i := h1
  have h3' : r = [] := h3
  subst h1' h3' e1
  refine ⟨fun b => H b ≠ none, [.int i], fun d => ∃ a b c : Int, d = .lst [.int a, .int b, .int c], fun b hb => hb, ⟨_, _, rfl, rfl, rfl⟩, ⟨i, rfl, fun d s c => ⟨d, s, c, rfl⟩⟩, fun d ⟨a, b, c, hd⟩ v H' sm hv => ?_⟩
  subst hd
  obtain ⟨p, vs, e2, hk, hp, hl⟩ := hv
  obtain ⟨v1, r1, e3, g1, v2, r2, e4, g2, v3, r3, e5, g3, g4⟩ := hl
  have g1' : v1 = .int a := g1
  have g2' : v2 = .int b := g2
  have g3' : v3 = .int c := g3
  have g4' : r3 = [] := g4
  subst g1' g2' g3' g4' e5 e4 e3
  have hn : H p = none := Classical.not_not.mp hk
  refine ⟨p, a, b, c, e2, hp, imp .src hQ _ _ (fun b u hu => ?_) ⟨p, e2, fun z => hB p z hn, upd_same⟩⟩
  rw [upd_ne fun z => by rw [z, hn] at hu; cases hu]
  exact sm b u hu
end
/-! ### a def by its body, as FnOk -/
section
variable {P : Program} {w : World} {K : PySem.W.Frag} {mg : Str → Option Value} {base : Heap} {ca : Str → Addr} {k : Nat} {f : Addr} {fd : FuncData} {name qual : Str} {params : Arguments} {body : List Stmt} {scope : Scope} {N ps : List Str} {sp : DSp} {T : TDS}
theorem fo_of (F : FunD K name qual params body scope [] [] f fd) (S : FnScope N ps scope) (hl : ∀ ds Q, sp ds Q DX0 → ds.length = ps.length) (hn : ps.length ≤ N.length)
    (hD : ∀ (cdv : Value) (A : Around) (outer : List Env) (s : Shared) (H : Hp) (E : XK), Room k (A.deeper (PyProof.Rows.envOfC qual scope s.heap.objs.size f cdv)) → DSs (cxOf CX0 P w K mg base N qual scope f cdv A outer s H E) ca H body T)
    (hT : Does N.length T sp) : FnOk P w K mg base CX0 (k + 1) f fd ps (LSp K ca sp) :=
  F.ok S (fun vs H Q E ⟨B, ds, Q', hB, hd, hs, imp⟩ => by rw [← hd.length]; exact hl ds Q' hs) fun cdv A outer s H vs Q E hr h => by
    obtain ⟨B, h1⟩ := ls_start (X := cxOf CX0 P w K mg base N qual scope f cdv A outer s H E) (N := N) (T := T) (fun ds Q hs => ⟨by rw [hl ds Q hs]; exact hn, hT ds Q hs⟩) h
    exact ⟨_, (hD cdv A outer s H E hr).ps B, h1⟩
/-- what the law is asked: a list of ints, given from outside -/
theorem ask_law {H : Hp} {a : Addr} {ns : List Int} {Q : D → Prop} (hS : SqL K H a (ns.map V.int)) : DvL K ca H (fun b => ¬ False) [.klst (ns.map D.int)] [.ref a] :=
  ⟨_, _, rfl, ⟨a, ns.map V.int, rfl, hS.elim (fun h => .inl ⟨fun z => z, h⟩) .inr, DvL.of_ints ns⟩, rfl⟩
end
end DL
set_option Elab.async false
set_option linter.all false
set_option maxRecDepth 100000
set_option maxHeartbeats 4000000
/-! DG: defs that are run where no repr is under way; repr of data -/
namespace DL
open PySem PySem.Spec L2
/-- a def's promise, where no repr is under way -/
def FnG (P : Program) (w : World) (K : PySem.W.Frag) (mg : Str → Option Value) (base : Heap) (k : Nat) (f : Addr) (sp : Sp) : Prop :=
  ∀ (A : Around) (outer : List Env) (s : Shared) (H : Hp) (us : List Value) (vs : List V) (Q : VK) (E : XK),
    A.guards = some [] → Room k A → Env0 P w K mg base A outer s H → Vals vs us → sp vs H Q E →
      codeAny (model P w) A (.call (.ref f) ⟨us, []⟩) (CR CX0 outer P w H s Q E) s
section
variable {P : Program} {w : World} {K : PySem.W.Frag} {mg : Str → Option Value} {base : Heap} {k : Nat} {f : Addr} {fd : FuncData} {name qual : Str} {params : Arguments} {body : List Stmt} {scope : Scope} {N ps : List Str} {sp : Sp}
theorem fng_of (F : FunD K name qual params body scope [] [] f fd) (S : FnScope N ps scope) (hb : Binds K fd ps []) (ln : ∀ vs H Q E, sp vs H Q E → vs.length = ps.length)
    (go : ∀ (cdv : Value) (A : Around) (outer : List Env) (s : Shared) (H : Hp) (vs : List V) (Q : VK) (E : XK), A.guards = some [] →
      Room k (A.deeper (PyProof.Rows.envOfC qual scope s.heap.objs.size f cdv)) → sp vs H Q E →
      ∃ t, PSs (cxOf CX0 P w K mg base N qual scope f cdv A outer s H E) body t ∧ t { nx := fun _ H' => Q .non H', rt := Q } (L2.start N vs) H) :
    FnG P w K mg base (k + 1) f sp := by
  obtain ⟨oc, od, dV, kV, doc, pm, an, cdv, ct, osl, rfl, at_, code, _, _⟩ := F.ex
  intro A outer s H us vs Q E gd room env rv hs
  have vl := ln _ _ _ _ hs
  have inK : K.In s.heap := env.mod.kin.keeps (fun b o e => (env.bs b o e).1)
  have noL : s.heap.NoLimit := env.mod.nolimit.keeps (fun b o e => (env.bs b o e).1)
  have bd := hb s us inK (by rw [List.append_nil, ← rv.length]; exact vl)
  rw [List.append_nil] at bd
  have kinds : ∀ q ∈ ps.zip us, scope.names.lookup q.1 = some .local ∨
      (scope.names.lookup q.1 = some .cell ∧ ((cellsFrom (s.heap.objs.size + 1) scope.names []).lookup q.1).isSome = true) := by
    rintro ⟨n, u⟩ hq
    rcases S.par n (List.of_mem_zip hq).1 with z | z
    · exact Or.inl z
    · exact Or.inr ⟨z, PySem.W.cellsFrom_some _ _ _ (Or.inl z)⟩
  refine codeAny_call_function room.depth (inK _ _ at_) rfl S.co S.gen rfl (PySem.W.codeRec_of inK code) (bd _ _ _ _ ?_)
  refine wpAny_newFunctionEnv_cells S.kind kinds (fun nv en s2 x => ?_)
  subst en
  refine ⟨noL.keeps x.toInCall.keep, codeAny_func ?_⟩
  obtain ⟨t, run, q0⟩ := go cdv A outer s H vs Q E gd (room.deeper _) hs
  have I0 := inv_start (CX := CX0) (K := K) (mg := mg) (base := base) (E := E) (cd := cdv) (f := f) (qual := qual) S room.hd env vl rv x
  refine wpAny_mono (run.run [] s2 _ H _ I0 q0) (fun fl s3 z => ?_) (fun e s3 z => z)
  cases fl with
  | next =>
    obtain ⟨σ1, H1, J, q⟩ := z
    exact ⟨V.non, H1, J.os, J.bare, J.base, J.hok, rfl, q⟩
  | ret u =>
    obtain ⟨v, σ1, H1, J, ru, q⟩ := z
    exact ⟨v, H1, J.os, J.bare, J.base, J.hok, ru, q⟩
  | brk => exact (z.elim fun _ z => z.elim fun _ z => z.2).elim
  | cont => exact (z.elim fun _ z => z.elim fun _ z => z.2).elim
end
/-! ### calls of such defs -/
def CalG (P : Program) (w : World) (K : PySem.W.Frag) (mg : Str → Option Value) (base : Heap) (ca : Str → Addr) (k : Nat) (f : Addr) (sp : DSp) : Prop :=
  PySem.W.keepIn K (.ref f) = true ∧ ∀ X : Cx, X.prog = P → X.w = w → X.K = K → X.mg = mg → X.base = base → X.A.guards = some [] → Room k X.A → CallR X (.ref f) (fun vs H Q => LSp K ca sp vs H Q E0)
def DfG (P : Program) (w : World) (K : PySem.W.Frag) (mg : Str → Option Value) (base : Heap) (ca : Str → Addr) (k : Nat) (name : Str) (sp : DSp) : Prop :=
  ∃ f, mg name = some (.ref f) ∧ CalG P w K mg base ca k f sp
section
variable {P : Program} {w : World} {K : PySem.W.Frag} {mg : Str → Option Value} {base : Heap} {ca : Str → Addr} {k : Nat} {f : Addr} {fd : FuncData} {name qual : Str} {params : Arguments} {body : List Stmt} {scope : Scope} {N ps : List Str} {sp : DSp} {T : TDS}
theorem CalG.of (hk : PySem.W.keepIn K (.ref f) = true) (F : FnG P w K mg base k f (LSp K ca sp)) : CalG P w K mg base ca k f sp :=
  ⟨hk, fun X e1 e2 e3 e4 e5 gd hr => by
    subst e1 e2 e3 e4 e5
    intro pins s σ H xs us Q I rv h
    refine wpAny_call (codeAny_mono (F X.A X.stack s H us xs Q E0 gd hr I.env0 rv h) fun r s' hq => ?_)
    cases r with
    | ok fl =>
      cases fl with
      | ret u => exact I.after hq
      | next => exact hq.elim
      | brk => exact hq.elim
      | cont => exact hq.elim
    | error e => exact pass0 pins σ H s e s' I hq⟩
theorem dfg_of (hm : mg name = some (.ref f)) (F : FunD K name qual params body scope [] [] f fd) (G : FnG P w K mg base k f (LSp K ca sp)) : DfG P w K mg base ca k name sp := ⟨f, hm, .of F.kp G⟩
theorem fg_of (F : FunD K name qual params body scope [] [] f fd) (S : FnScope N ps scope) (hb : Binds K fd ps []) (hl : ∀ ds Q, sp ds Q DX0 → ds.length = ps.length) (hn : ps.length ≤ N.length)
    (hD : ∀ (cdv : Value) (A : Around) (outer : List Env) (s : Shared) (H : Hp) (E : XK), A.guards = some [] → Room k (A.deeper (PyProof.Rows.envOfC qual scope s.heap.objs.size f cdv)) →
      DSs (cxOf CX0 P w K mg base N qual scope f cdv A outer s H E) ca H body T)
    (hT : Does N.length T sp) : FnG P w K mg base (k + 1) f (LSp K ca sp) :=
  fng_of F S hb (fun vs H Q E ⟨B, ds, Q', hB, hd, hs, imp⟩ => by rw [← hd.length]; exact hl ds Q' hs) fun cdv A outer s H vs Q E gd hr h => by
    obtain ⟨B, h1⟩ := ls_start (X := cxOf CX0 P w K mg base N qual scope f cdv A outer s H E) (N := N) (T := T) (fun ds Q hs => ⟨by rw [hl ds Q hs]; exact hn, hT ds Q hs⟩) h
    exact ⟨_, (hD cdv A outer s H E gd hr).ps B, h1⟩
end
section
variable {X : Cx} {ca : Str → Addr} {H0 : Hp} {x : Expr} {es : List Expr} {p pos : Pos} {sp : DSp} {t : TDF} {k : Nat} {n : Str} {ta : TDO}
theorem de_appG (d : DfG X.prog X.w X.K X.mg X.base ca k n sp) (gd : X.A.guards = some []) (hr : Room k X.A) (hg : Gl X n) (ha : DA X ca H0 (x :: es) t) (hdb : (n == ("__debug__" : Str)) = false := by decide)
    (he : starEach (x :: es) X.env = (false, eval x X.env) :: starEach es X.env := by rfl) (hpl : (backTo pos (starEach es X.env)).any (·.1) = false := by rfl) : DE X ca H0 (.Call (.Name n p) (x :: es) [] pos) (dApp sp t) := by
  obtain ⟨f, hm, c⟩ := d
  exact ⟨fun B => pe_imp (pe_cG (c.2 X rfl rfl rfl rfl rfl gd hr) c.1 hg hm (ha.pa B) hdb he hpl) (le_app E0)⟩
/-! ### repr of data -/
structure ReprOk (p : PyData) : Prop where
  box : (∃ xs, p = .list xs) ∨ ∃ xs, p = .tuple xs
  shw : p.showable = true
  nod : p.hasDict = false
  dep : p.depth ≤ 100
  siz : p.shown.length ≤ sizeLine
theorem call_reprD (gd : X.A.guards = some []) (hr : Room k X.A) : CallR X (.builtin "repr") (fun xs H Q => ∃ z d, xs = [z] ∧ Dp X.K H z d ∧ ReprOk d ∧ Q (.str d.shown) H) := by
  intro pins s σ H xs us Q I rv ⟨z, d, ez, hd, ok, q⟩
  subst ez
  cases rv with
  | cons rz rt =>
    cases rt
    rename_i u
    obtain ⟨as, r⟩ := Dp.reads I d z u hd rz
    have hu : ∃ a, u = .ref a := by
      rcases ok.box with ⟨ys, e⟩ | ⟨ys, e⟩
      · subst e
        cases r
        exact ⟨_, rfl⟩
      · subst e
        cases r
        exact ⟨_, rfl⟩
    obtain ⟨a, rfl⟩ := hu
    have hun := hr.un
    have hdp := ok.dep
    exact repr_of_reads' r ok.shw (fun z => by rw [ok.nod] at z; cases z) gd (by omega) (fun b o e => e) (fun h' u tk kp => ⟨.str d.shown, H, I.kept kp, ⟨u, rfl⟩, q⟩) ok.siz
def dRepr (ta : TDO) : TD := fun e Q => ta e fun a e1 => ∃ d py, look e1 a = some d ∧ toPy d = some py ∧ ReprOk py ∧ Q (.str py.shown) e1
theorem de_repr (gd : X.A.guards = some []) (hr : Room k X.A) (hg : Gl X n) (hm : X.mg n = none) (hv : bootBuiltins n = some (.builtin "repr")) (ha : DO X ca H0 x ta) (hn : n ≠ "__name__" := by decide) (hdb : (n == ("__debug__" : Str)) = false := by decide)
    (he : starEach [x] X.env = (false, eval x X.env) :: starEach [] X.env := by rfl) (hpl : (backTo pos (starEach [] X.env)).any (·.1) = false := by rfl) : DE X ca H0 (.Call (.Name n p) [x] [] pos) (dRepr ta) :=
  ⟨fun B => pe_imp (pe_callB (call_reprD gd hr) hg hm hv (pa_cons (ha.pe B) pa_nil he) hn hdb he hpl) fun σ H Q ⟨e, o, Q', R, q, imp⟩ => ⟨e, o, _, R, q, fun a e1 ⟨d, py, hl, hp, ok, q1⟩ v H1 o1 R1 s1 h1 =>
    ⟨v, py, rfl, dp_of d v py (R1.look h1 hl) hp, ok, imp (.str py.shown) e1 q1 _ H1 o1 R1 s1 rfl⟩⟩⟩
end
end DL
set_option Elab.async false
set_option linter.all false
set_option maxRecDepth 100000
set_option maxHeartbeats 4000000
/-! DE: a law's end, its def run where no repr is under way -/
namespace DL
open PySem PySem.Spec L2
theorem law_callG {P : Program} {w : World} {K : PySem.W.Frag} {mg mb : Str → Option Value} {k : Nat} {fa a : Addr} {sp : Sp} {s1 : Shared} {vs : List Value} {ns : List Int}
    (inK : K.In s1.heap) (hns : s1.heap.Ns mainGlobals mg) (hb : s1.heap.Ns builtinsNs mb) (hbb : ∀ x : Str, x ≠ "__name__" → mb x = bootBuiltins x)
    (noL : s1.heap.NoLimit) (gens : s1.gens = #[]) (ha : s1.heap.get? a = some { cls := .type "list", data := .seq vs.toArray })
    (hi : PyProof.Rows.IntsAre vs ns) (hl : ns.length ≤ sizeLine) (room : Room k callerA)
    (F : ∀ base : Heap, K.In base → base.Ns mainGlobals mg → FnG P w K mg base k fa sp)
    (ask : ∀ H : Hp, Only H → SqL K H a (ns.map V.int) → sp [.ref a] H (fun v _ => v = .bl true) fun _ _ _ => False) :
    codeAny (model P w) callerA (.call (.ref fa) ⟨[.ref a], []⟩)
      (fun r s2 => r = .ok (.ret (.bool true)) ∧ PySem.OldK s1.heap s2.heap ∧ s2.os = s1.os ∧ PyProof.Rows.AllBare s2.gens) s1 := by
  have rv := vals_ints hi
  have vl := hi.length
  -- the heap as it is told: nothing, or the script alone
  suffices go : ∀ H : Hp, Only H → SqL K H a (ns.map V.int) → HOk P w H s1.heap → (∀ b, b ≠ a → H b = none) → (H a ≠ none → K.lookup a = none) →
      codeAny (model P w) callerA (.call (.ref fa) ⟨[.ref a], []⟩)
        (fun r s2 => r = .ok (.ret (.bool true)) ∧ PySem.OldK s1.heap s2.heap ∧ s2.os = s1.os ∧ PyProof.Rows.AllBare s2.gens) s1 by
    by_cases own : K.lookup a = none
    · let H1 : Hp := fun b => if b = a then some (.frz { cls := .type "list", data := .seq vs.toArray } (.lst (ns.map V.int))) else none
      have at_a : H1 a = some (.frz { cls := .type "list", data := .seq vs.toArray } (.lst (ns.map V.int))) := if_pos rfl
      have off : ∀ b, b ≠ a → H1 b = none := fun b n => if_neg n
      refine go H1 (fun b => ?_) (.inl (.inr ⟨_, at_a⟩)) (fun b u z => ?_) off fun _ => own
      · rcases Classical.em (b = a) with e | e
        · subst e
          exact .inr ⟨_, _, at_a⟩
        · exact .inl (off b e)
      · rcases Classical.em (b = a) with e | e
        · subst e
          rw [at_a] at z
          cases z
          exact ⟨ha, by rw [List.length_map]; exact hl, vs, _, rv, ha⟩
        · rw [off b e] at z
          cases z
    · obtain ⟨o, ho⟩ := Option.ne_none_iff_exists'.mp own
      have e := inK a o ho
      rw [ha] at e
      cases e
      exact go (fun _ => none) (fun _ => .inl rfl) (.inr ⟨_, vs.toArray, _, ho, rfl, rfl, rfl, by rw [List.size_toArray, vl]; exact hl, by simpa using rv⟩)
        (fun b u z => nomatch z) (fun _ _ => rfl) fun z => absurd rfl z
  intro H only sq ok off nk
  have keepO : ∀ {b : Addr} {o : Obj}, s1.heap.get? b = some o → H b = none → (hidT s1.heap H).get? b = some o := fun e n => hidT_get e n
  have noDict : ∀ {b : Addr} {o : Obj} {es : Array DictEntry} {ep : Nat}, s1.heap.get? b = some o → o.data = .dict es ep → H b = none := by
    intro b o es ep e d
    refine off b fun z => ?_
    subst z
    rw [ha] at e
    cases e
    exact nomatch d
  have keepN : ∀ {b : Addr} {m : Str → Option Value}, s1.heap.Ns b m → (hidT s1.heap H).Ns b m := by
    rintro b m ⟨o, es, ep, e, d, r⟩
    exact ⟨o, es, ep, keepO e (noDict e d), d, r⟩
  have inB : K.In (hidT s1.heap H) := by
    intro b o e
    refine keepO (inK b o e) (Classical.byContradiction fun z => ?_)
    have eb : b = a := Classical.byContradiction fun y => z (off b y)
    subst eb
    rw [nk z] at e
    cases e
  obtain ⟨mc, lim1, lim2⟩ := noL
  have md : Mod K mg (hidT s1.heap H) := ⟨inB, keepN hns, ⟨mb, keepN hb, hbb⟩, ⟨mc, keepN lim1, lim2⟩⟩
  have env : Env0 P w K mg (hidT s1.heap H) callerA [] s1 H :=
    ⟨rfl, md, fun b o e => of_hidT e, Nat.le_of_eq (hidT_size _ _), trivial, fun b z => (nomatch z), ok, .of_eq gens⟩
  refine codeAny_mono (F _ inB (keepN hns) callerA [] s1 H [.ref a] [.ref a] _ _ rfl room env (.cons rfl .nil) (ask H only sq)) fun r s2 z => ?_
  cases r with
  | error e => exact (show False from z).elim
  | ok fl =>
    cases fl with
    | ret u =>
      obtain ⟨v, H2, os, bare, un, ok2, ru, ev⟩ := z
      have ev : v = V.bl true := ev
      subst ev
      obtain rfl : u = Value.bool true := ru
      refine ⟨rfl, PySem.OldK.of_keep fun b o e => ?_, os, bare⟩
      rcases hz : H b with _ | u2
      · exact un.keep b o e hz (fun z => nomatch z) (by simp)
      · rcases only b with y | ⟨ob, xs, y⟩
        · rw [hz] at y
          cases y
        · obtain ⟨g1, _⟩ := ok b _ y
          obtain ⟨g2, _⟩ := ok2 b _ (un.frzs b ob _ y)
          rw [e] at g1
          cases g1
          exact g2
    | next => exact z.elim
    | brk => exact z.elim
    | cont => exact z.elim
/-- a law's walk, its def run where no repr is under way -/
theorem walkG {l : PySem.W.OpenLaw} {n k : Nat} {q : Program} {loose : List Str} {XP : (Str → Option Value) → Heap → Prop} {YP : World → Heap → Prop} {d : DefRec}
    (hn : l.most = some n) (small : n ≤ sizeLine) (nodef : d.params.defaults = []) (room : Room k callerA)
    (F : ∀ (w : World) (mg : Str → Option Value) (fa : Addr) (h : Heap), YP w h → h.Ns mainGlobals mg → mg d.name = some (.ref fa) → ∃ (K : PySem.W.Frag) (sp : Sp), K.In h ∧
      (∀ (H : Hp) (a : Addr) (ns : List Int), ns.length ≤ n → Only H → SqL K H a (ns.map V.int) → sp [.ref a] H (fun v _ => v = .bl true) fun _ _ _ => False) ∧
        ∀ base : Heap, K.In base → base.Ns mainGlobals mg → FnG l.prog w K mg base k fa sp) :
    PySem.W.WalkO q loose XP YP l.row.toRowW d [] (fun f vs => PySem.call f vs) := by
  refine Att.attach_call hn nodef ?_
  intro w t0 t1 mg mb fa o pm cd doc a vs ns gr Y _ _ _ at_ obj are len gens
  obtain ⟨K, sp, inK, ask, go⟩ := F w mg fa _ Y gr.T.g at_
  exact law_callG inK gr.T.g gr.T.b gr.T.builtins gr.T.nolimit gens obj are (Nat.le_trans len small) room go fun H only sq => ask H a ns len only sq
end DL
set_option Elab.async false
set_option linter.all false
set_option maxRecDepth 100000
set_option maxHeartbeats 4000000
/-! DKW: calls with keywords; classmethods called so, and through an instance -/
namespace DL
open PySem PySem.Spec L2
def selL {α : Type} (js : List Nat) (xs : List α) : List α := js.filterMap fun i => xs[i]?
theorem vals_sel {vs : List V} {us : List Value} (r : Vals vs us) : ∀ js : List Nat, Vals (selL js vs) (selL js us)
  | [] => .nil
  | i :: js => by
    have ih := vals_sel r js
    unfold selL at ih ⊢
    rw [List.filterMap_cons, List.filterMap_cons]
    cases h : vs[i]? with
    | none =>
      have hl := r.length
      have h2 : us[i]? = none := by
        rw [List.getElem?_eq_none_iff] at h ⊢
        omega
      rw [h2]
      exact ih
    | some v =>
      obtain ⟨u, hu, rv⟩ := r.get h
      rw [hu]
      exact .cons rv ih
/-- a def's promise, called with keywords ks; js: where the parameters behind the positional ones find theirs -/
def FnKw (P : Program) (w : World) (K : PySem.W.Frag) (mg : Str → Option Value) (base : Heap) (k : Nat) (f : Addr) (ks : List Str) (js : List Nat) (sp : Sp) : Prop :=
  ∀ (A : Around) (outer : List Env) (s : Shared) (H : Hp) (us ws : List Value) (vs zs : List V) (Q : VK) (E : XK), Room k A → Env0 P w K mg base A outer s H →
    Vals vs us → Vals zs ws → zs.length = ks.length → sp (vs ++ selL js zs) H Q E → codeAny (model P w) A (.call (.ref f) ⟨us, ks.zip ws⟩) (CR CX0 outer P w H s Q E) s
section
variable {P : Program} {w : World} {K : PySem.W.Frag} {mg : Str → Option Value} {base : Heap} {k : Nat} {f : Addr} {fd : FuncData} {name qual : Str} {params : Arguments} {body : List Stmt} {scope : Scope} {N ps ks : List Str} {js : List Nat} {sp : Sp}
theorem fkw_of (F : FunD K name qual params body scope [] [] f fd) (G : FnOk P w K mg base CX0 k f fd ps sp)
    (h : ∀ (kV doc pm : Value) (an : Option Addr) (cdv ct : Value) (us ws : List Value), us.length + js.length = ps.length → ws.length = ks.length →
      bindArgs (PySem.W.fnOf name qual params body scope .none kV doc pm an cdv ct) ⟨us, ks.zip ws⟩ = pure (ps.zip (us ++ selL js ws)))
    (hj : ∀ {α : Type} (xs : List α), xs.length = ks.length → (selL js xs).length = js.length) : FnKw P w K mg base k f ks js sp := by
  obtain ⟨oc, od, dV, kV, doc, pm, an, cdv, ct, osl, rfl, at_, code, hD, _⟩ := F.ex
  have ed : dV = .none := by
    rcases hD with ⟨_, e⟩ | ⟨e, _⟩
    · exact e
    · exact absurd rfl e
  subst ed
  intro A outer s H us ws vs zs Q E room env rv rz hz hs
  have l1 := G.len _ _ _ _ hs
  have l2 := rz.length
  have l3 := rv.length
  rw [List.length_append, hj zs hz] at l1
  exact G.run A outer s H ⟨us, ks.zip ws⟩ (us ++ selL js ws) (vs ++ selL js zs) Q E room env (.of_eq (h kV doc pm an cdv ct us ws (by omega) (by omega))) (rv.append (vals_sel rz js)) hs
end
/-! ### texts compared, of any signs -/
def fEqT : D → D → Option D
  | .str a, .str b => some (.bl (decide (a = b)))
  | _, _ => none
def fNeT : D → D → Option D
  | .str a, .str b => some (.bl (!decide (a = b)))
  | _, _ => none
section
variable {K : PySem.W.Frag} {ca : Str → Addr}
theorem v_str_dec (a b : Str) : decide (V.str a = V.str b) = decide (a = b) := by
  by_cases h : a = b
  · subst h
    simp
  · rw [decide_eq_false h, decide_eq_false fun z => h (by injection z)]
theorem od_eqT : OpD K ca fEqT rEq := by
  intro H k a b c v u Q hk ha hb hf hQ
  match a, b, hf with
  | .str x, .str y, hf =>
    have e : D.bl (decide (x = y)) = c := Option.some.inj hf
    subst e
    have e1 := ha.str
    have e2 := hb.str
    subst e1 e2
    exact ⟨rfl, hQ _ _ (Same.refl _) (congrArg V.bl (v_str_dec x y))⟩
theorem od_neT : OpD K ca fNeT rNe := by
  intro H k a b c v u Q hk ha hb hf hQ
  match a, b, hf with
  | .str x, .str y, hf =>
    have e : D.bl (!decide (x = y)) = c := Option.some.inj hf
    subst e
    have e1 := ha.str
    have e2 := hb.str
    subst e1 e2
    exact ⟨rfl, hQ _ _ (Same.refl _) (congrArg (fun b => V.bl (!b)) (v_str_dec x y))⟩
end
/-! ### keywords' values on data -/
structure DKs (X : Cx) (ca : Str → Addr) (H0 : Hp) (kws : List Keyword) (t : TDF) : Prop where
  pk : ∀ B, PK X kws (LA X.K ca H0 B t)
section
variable {X : Cx} {ca : Str → Addr} {H0 : Hp} {x : Expr} {kws : List Keyword} {t : TD} {u : TDF} {nm : Option Str} {kpos : Pos}
theorem pk_imp {tk tk' : TA} (h : PK X kws tk) (i : ∀ σ H Q, tk' σ H Q → tk σ H Q) : PK X kws tk' := ⟨fun pos pins s σ H Q I q => h.run pos pins s σ H Q I (i σ H Q q)⟩
theorem dk_nil : DKs X ca H0 [] aNil := ⟨fun B => pk_imp pk_nil fun σ H Q ⟨e, o, Q', R, q, imp⟩ => imp [] e q [] H o R Stp.refl rfl⟩
theorem dk_cons (h : DE X ca H0 x t) (r : DKs X ca H0 kws u) : DKs X ca H0 (⟨nm, x, kpos⟩ :: kws) (aCons t u) := ⟨fun B => pk_imp (pk_cons (h.pe B) (r.pk B)) la_cons⟩
end
/-! ### classmethods with keywords alone -/
section
variable {X : Cx} {k : Nat} {C p g : Addr} {mc : Value} {sp : Sp} {o : Expr} {m : Str} {pos apos : Pos} {ta : TE} {tk : TA} {pl : Sem Bool} {kws : List Keyword} {ks : List Str} {js : List Nat} {pins : List (Addr × Obj)} {σ : L2.St} {H : Hp} {s : Shared}
theorem run_cmK {q : Addr} {Q : VK} {ws : List Value} {zs : List V} (F : FnKw X.prog X.w X.K X.mg X.base k g ks js sp) (hr : Room k X.A) (I : Inv X ((q, PySem.W.methodObj (.ref g) (.ref C)) :: pins) σ H s)
    (r : Vals zs ws) (hz : zs.length = ks.length) (h : sp (.ref C :: selL js zs) H Q E0) : wpAny (model X.prog X.w) X.A (call (.ref q) [] (ks.zip ws)) (EP X pins σ Q) X.xe s := by
  have z : wpAny (model X.prog X.w) X.A (call (.ref q) [] (ks.zip ws)) (EP X ((q, PySem.W.methodObj (.ref g) (.ref C)) :: pins) σ Q) X.xe s := by
    refine wpAny_call (PySem.W.method_call (ClX.pin_at I) (codeAny_mono (F X.A X.stack s H [.ref C] ws [.ref C] zs Q E0 hr I.env0 (.cons rfl .nil) r hz h) fun r s' hq => ?_))
    cases r with
    | ok fl =>
      cases fl with
      | ret u => exact I.after hq
      | next => exact hq.elim
      | brk => exact hq.elim
      | cont => exact hq.elim
    | error e => exact pass0 _ σ H s e s' I hq
  exact thn z fun _ _ y => ClX.unpinE y
theorem pe_cmethK (he : PE X o ta) (r : ClX.CRead X.K C mc) (c : ClX.CMet X.K C mc m p g) (F : FnKw X.prog X.w X.K X.mg X.base k g ks js sp) (hr : Room k X.A) (hkw : PK X kws tk)
    (hall : (backToKw pos (keywordEach kws X.env)).all (·.1.isSome) = true := by rfl) (hks : (backToKw pos (keywordEach kws X.env)).filterMap (·.1) = ks := by rfl)
    (hpl : ((backTo pos (starEach [] X.env)).any (·.1) || (backToKw pos (keywordEach kws X.env)).any (·.1.isNone)) = false := by rfl)
    (ht : eval (.Call (.Attribute o m apos) [] kws pos) X.env = (do
      let ov ← eval o X.env
      standAt apos.atName
      let (f, first) ← holding [ov] (getMethod ov m pl)
      callWith pos f first (backTo pos (starEach [] X.env)) (backToKw pos (keywordEach kws X.env))) := by rfl) :
    PE X (.Call (.Attribute o m apos) [] kws pos) (fun σ H Q => ta σ H fun x H1 => x = .ref C ∧ tk σ H1 fun zs H2 => zs.length = ks.length ∧ sp (.ref C :: selL js zs) H2 Q E0) := by
  refine ⟨fun pins s σ H Q I h => ?_⟩
  refine PySem.W.methodCall_KW (pl := pl) (thn (he.run pins s σ H _ I h) fun u s1 ⟨x, H1, I1, rx, ex, q⟩ => ?_) ht
  subst ex
  obtain rfl : u = Value.ref C := rx
  refine ClX.getmethcm_ok I1 r c fun s2 I2 => ?_
  refine PySem.W.callWith_of hpl (PySem.W.keeps_M c.fi) (PyProof.Rows.evalArgs_kw2_nil hall (thn (hkw.run pos _ s2 σ H1 _ I2 q) fun ws s3 ⟨zs, H2, I3, rz, hz, q2⟩ => ⟨⟨ClX.pin_at I3, I3.kIn⟩, ?_⟩))
  rw [hks]
  exact run_cmK F hr I3 rz hz q2
end
/-- C.m, a classmethod called with keywords -/
def CMk (P : Program) (w : World) (K : PySem.W.Frag) (mg : Str → Option Value) (base : Heap) (ca : Str → Addr) (k : Nat) (c m : Str) (ks : List Str) (js : List Nat) (sp : DSp) : Prop :=
  ∃ mc pr g, ClX.CRead K (ca c) mc ∧ ClX.CMet K (ca c) mc m pr g ∧ FnKw P w K mg base k g ks js (LSp K ca sp)
def dCMethK (c : Str) (n : Nat) (js : List Nat) (sp : DSp) (t : TDF) : TD := fun e Q => t e fun ds e' => ds.length = n ∧ sp (.cls c :: selL js ds) (fun d => Q d e') DX0
theorem dvl_get {K : PySem.W.Frag} {ca : Str → Addr} {H : Hp} {kp : Addr → Prop} : ∀ {ds : List D} {vs : List V}, DvL K ca H kp ds vs → ∀ i : Nat, (ds[i]? = none ∧ vs[i]? = none) ∨ ∃ d v, ds[i]? = some d ∧ vs[i]? = some v ∧ Dv K ca H kp d v
  | [], vs, h, i => by
    have e : vs = [] := h
    subst e
    exact .inl ⟨rfl, rfl⟩
  | d :: ds, vs, ⟨v, r, e, h1, h2⟩, 0 => .inr ⟨d, v, rfl, by rw [e] <;> rfl, h1⟩
  | d :: ds, vs, ⟨v, r, e, h1, h2⟩, i + 1 => by
    subst e
    exact dvl_get h2 i
theorem dvl_sel {K : PySem.W.Frag} {ca : Str → Addr} {H : Hp} {kp : Addr → Prop} {ds : List D} {vs : List V} (h : DvL K ca H kp ds vs) : ∀ js : List Nat, DvL K ca H kp (selL js ds) (selL js vs)
  | [] => rfl
  | i :: js => by
    have ih := dvl_sel h js
    unfold selL at ih ⊢
    rw [List.filterMap_cons, List.filterMap_cons]
    rcases dvl_get h i with ⟨a, b⟩ | ⟨d, v, a, b, c⟩
    · rw [a, b]
      exact ih
    · rw [a, b]
      exact .cons c ih
section
variable {X : Cx} {ca : Str → Addr} {H0 : Hp} {x : Expr} {kws : List Keyword} {t : TDF} {c m n : Str} {ks : List Str} {js : List Nat} {sp : DSp} {k : Nat} {pos apos np : Pos} {pl : Sem Bool} {es : List Expr} {to : TDO}
theorem de_cmethK (h : CMk X.prog X.w X.K X.mg X.base ca k c m ks js sp) (hr : Room k X.A) (hg : Gl X n) (hm : X.mg n = some (.ref (ca c))) (hk : DKs X ca H0 kws t)
    (hall : (backToKw pos (keywordEach kws X.env)).all (·.1.isSome) = true := by rfl) (hks : (backToKw pos (keywordEach kws X.env)).filterMap (·.1) = ks := by rfl)
    (hpl : ((backTo pos (starEach [] X.env)).any (·.1) || (backToKw pos (keywordEach kws X.env)).any (·.1.isNone)) = false := by rfl)
    (ht : eval (.Call (.Attribute (.Name n np) m apos) [] kws pos) X.env = (do
      let ov ← eval (.Name n np) X.env
      standAt apos.atName
      let (f, first) ← holding [ov] (getMethod ov m pl)
      callWith pos f first (backTo pos (starEach [] X.env)) (backToKw pos (keywordEach kws X.env))) := by rfl) (hdb : (n == ("__debug__" : Str)) = false := by decide) {nk : Nat} (hnk : ks.length = nk := by rfl) :
    DE X ca H0 (.Call (.Attribute (.Name n np) m apos) [] kws pos) (dCMethK c nk js sp t) := by
  subst hnk
  obtain ⟨mc, pr, g, h1, h2, F⟩ := h
  exact ⟨fun B => pe_imp (pe_cmethK (pe_glob hg hm (v := .ref (ca c)) rfl hdb) h1 h2 F hr (hk.pk B) hall hks hpl ht) fun σ H Q ⟨e, o, Q', R, q, imp⟩ =>
    ⟨rfl, e, o, _, R, q, fun ds e1 ⟨hl, q1⟩ vs H1 o1 R1 s1 hd => ⟨by rw [← hd.length]; exact hl, fun b => ¬ okA B e1 o1 b, .cls c :: selL js ds, fun d => Q' d e1, not_okA R1,
      DvL.mono (Stp.weak fun b z => not_not_intro z) _ _ (.cons (d := .cls c) rfl (dvl_sel hd js)), q1, fun d qd v H2 s2 hv =>
      imp d e1 qd v H2 o1 (R1.grow s2) (s1.trans (Stp.same s2)) (Dv.mono (Stp.weak fun b z => Classical.not_not.mp z) _ _ hv)⟩⟩⟩
/-- C.m, a classmethod, reached through an instance -/
def IMt (P : Program) (w : World) (K : PySem.W.Frag) (mg : Str → Option Value) (base : Heap) (ca : Str → Addr) (k : Nat) (c m : Str) (sp : DSp) : Prop :=
  ∃ pr g, ClX.CInst K (ca c) m pr g ∧ FnR P w K mg base CX0 k g (LSp K ca sp)
def dIMeth (c m : Str) (sp : DSp) (to : TDO) (t : TDF) : TD := fun e Q => to e fun a e1 => (∃ ns ds, look e1 a = some (.obj c ns ds) ∧ m ∉ ns) ∧ t e1 fun es e2 => sp (.cls c :: es) (fun d => Q d e2) DX0
theorem lookup_zip_none {α : Type} {m : Str} : ∀ {ns : List Str} {vs : List α}, m ∉ ns → (ns.zip vs).lookup m = none
  | [], _, _ => rfl
  | _ :: _, [], _ => rfl
  | n :: ns, v :: vs, h => by
    have h1 : (m == n) = false := by
      rw [beq_eq_false_iff_ne]
      exact fun e => h (by rw [e]; exact List.mem_cons_self)
    rw [List.zip_cons_cons, List.lookup_cons, h1]
    exact lookup_zip_none fun z => h (List.mem_cons_of_mem _ z)
theorem de_imeth {o : Expr} (h : IMt X.prog X.w X.K X.mg X.base ca k c m sp) (hr : Room k X.A) (ho : DO X ca H0 o to) (ha : DA X ca H0 (x :: es) t)
    (hst : starEach (x :: es) X.env = (false, eval x X.env) :: starEach es X.env := by rfl) (hpl : (backTo pos (starEach es X.env)).any (·.1) = false := by rfl)
    (ht : eval (.Call (.Attribute o m apos) (x :: es) [] pos) X.env = (do
      let ov ← eval o X.env
      standAt apos.atName
      let (f, first) ← holding [ov] (getMethod ov m pl)
      callWith pos f first (backTo pos (starEach (x :: es) X.env)) (backToKw pos (keywordEach [] X.env))) := by rfl) :
    DE X ca H0 (.Call (.Attribute o m apos) (x :: es) [] pos) (dIMeth c m sp to t) := by
  obtain ⟨pr, g, h1, F⟩ := h
  exact ⟨fun B => pe_imp (ClX.pe_imethD (E := E0) (ho.pe B) h1 F hr pass0 (ha.pa B) hst hpl ht) fun σ H Q ⟨e, o, Q', R, q, imp⟩ =>
    ⟨e, o, _, R, q, fun a e1 ⟨⟨ns, ds, hl, hn⟩, q1⟩ v H1 o1 R1 s1 hv => by
      obtain ⟨pp, dx, vs, e2, hp, hnn, hd⟩ := (R1.look hv hl).obj
      refine ⟨pp, dx, _, e2, hp, lookup_zip_none hn, e1, o1, _, R1, q1, fun es2 e3 q3 ws H2 o2 R2 s2 hd2 => ⟨fun b => ¬ okA B e3 o2 b, _, fun d => Q' d e3, not_okA R2,
        DvL.mono (Stp.weak fun b z => not_not_intro z) _ _ (.cons (d := .cls c) rfl hd2), q3, fun d qd v2 H3 s3 hv2 => ?_⟩⟩
      exact imp d e3 qd v2 H3 o2 (R2.grow s3) ((s1.trans s2).trans (Stp.same s3)) (Dv.mono (Stp.weak fun b z => Classical.not_not.mp z) _ _ hv2)⟩⟩
end
end DL
set_option Elab.async false
set_option linter.all false
set_option maxRecDepth 100000
set_option maxHeartbeats 4000000
set_option exponentiation.threshold 10000
/-! SB: what the laws' helpers over numbers promise (k01 to k18) -/
namespace DL
open PySem PySem.Spec L2 DM
def lawPrimes : List Nat := [2, 3, 5, 7, 11, 13, 101, 65537, 1000000007, 2147483647, 4294967291, 9999999929, 9999999943, 9999999967]
/-- a number all of whose bases are known -/
def lawR : Nat := 2 * 3 * 5 * 7 * 11 * 13 * 101 * 65537 * 1000000007 * 2147483647 * 4294967291 * 9999999929 * 9999999943 * 9999999967
def strN (n : Nat) : Str := toString ((n : Nat) : Int)
def factText (p : Nat × Nat) : Str := strN p.1 ++ (if 1 < p.2 then ("^" : Str) ++ strN p.2 else ("" : Str))
def textOf (w : List (Nat × Nat)) : Str := if w = [] then ("1" : Str) else Txt.join ("*" : Str) (w.map factText)
/-- a writing as laws draw them -/
structure WLR (R : Nat) (w : List (Nat × Nat)) : Prop where
  wf : WF R w
  sm : ∀ p ∈ w, p.2 ≤ 10 ^ 100
  ln : w.length ≤ 4096
abbrev WL (w : List (Nat × Nat)) : Prop := WLR lawR w
def WX (w : List (Nat × Nat)) : Prop := ∃ R, WLR R w
def sp_law_cell : DSp := fun ds Q _ => ∃ (ns : List Int) (k : Nat), ds = [.klst (ns.map D.int), .int k] ∧ k < 100 ∧ ∀ i : Int, Q (.int i)
def sp_law_mixed : DSp := fun ds Q _ => ∃ xs : List D, ds = [.src, .lst xs] ∧ xs.length ≤ 1000 ∧ ∀ ys, ys.Perm xs → Q (.lst ys)
/-- distinct primes of the law's -/
structure LP (ps : List Nat) : Prop where
  nd : ps.Nodup
  mem : ∀ p ∈ ps, p ∈ lawPrimes
def sp_law_primes : DSp := fun ds Q _ => ∃ m : Nat, ds = [.src, .int m] ∧ 0 < m ∧ m ≤ 14 ∧ ∀ ps, LP ps → 0 < ps.length → ps.length ≤ m → Q (.lst (intsD ps))
def sp_law_exps : DSp := fun ds Q _ => ∃ ps : List Nat, ds = [.src, .lst (intsD ps)] ∧ ps.length ≤ 14 ∧ ∀ es : List Nat, es.length = ps.length → (∀ e ∈ es, e ≤ 10 ^ 30) → Q (.lst (intsD es))
def sp_law_writing : DSp := fun ds Q _ => ∃ ps es : List Nat, ds = [.src, .lst (intsD ps), .lst (intsD es)] ∧ LP ps ∧ es.length = ps.length ∧ (∀ e ∈ es, e ≤ 10 ^ 100) ∧ ∀ w, WL w → val w = pp ps es → Q (.tup (w.map pairD))
def sp_law_text : DSp := fun ds Q _ => ∃ w, ds = [.tup (w.map pairD)] ∧ WX w ∧ Q (.str (textOf w))
def sp_integer_in : DSp := fun ds Q _ => ∃ n : Nat, ds = [.str (strN n)] ∧ 0 < n ∧ n ≤ 10 ^ 100 ∧ Q (.int n)
def sp_pair_in : DSp := fun ds Q _ => ∃ p : Nat × Nat, ds = [.str (factText p)] ∧ 2 ≤ p.1 ∧ p.1 ≤ 10 ^ 20 ∧ 1 ≤ p.2 ∧ p.2 ≤ 10 ^ 100 ∧ Q (pairD p)
def sp_Number_read : DSp := fun ds Q _ => ∃ w, ds = [.cls "Number", .str (textOf w)] ∧ WX w ∧ Q (num w)
def sp_law_number : DSp := fun ds Q _ => ∃ w, ds = [.src, .tup (w.map pairD)] ∧ WX w ∧ Q (num w)
def sp_law_made : DSp := fun ds Q _ => ∃ ps es : List Nat, ds = [.src, .lst (intsD ps), .lst (intsD es)] ∧ LP ps ∧ es.length = ps.length ∧ (∀ e ∈ es, e ≤ 10 ^ 100) ∧ ∀ w, WL w → val w = pp ps es → Q (num w)
end DL
set_option Elab.async false
set_option linter.all false
set_option maxRecDepth 100000
set_option maxHeartbeats 4000000
set_option exponentiation.threshold 10000
/-! RB: readings of the laws' helpers over numbers (printed by gen.py) -/
namespace DL
open PySem PySem.Spec L2 DM
/-- integer_in: slots word, sign -/
def rd_integer_in : TDS := (dSeq (dIfS (dOr (dNot (dTest (dChain fLe fLe (oVal (dC (.int 1))) (oVal (dCB fLen (aoCons (oSlot 0) aoNil))) (oVal (dC (.int 4000)))))) (dOr (dTest (dOp fEq (oVal (dOp fIx (oSlot 0) (oVal (dC (.int 0))))) (oVal (dC (.str ("0" : Str)))))) (dNot (dTru (oVal (dCB fAllB (aoCons (oVal (dNew (fLc (iSeqD (dVar 0)) [1] (gN 1) dYes (dOp fIn (oSlot 1) (oVal (dC (.str ("0123456789" : Str)))))))) aoNil))))))) (dRet (dC .non)) dNext) (dRet (dCB fIntB (aoCons (oSlot 0) aoNil))))
/-- pair_in: slots word, base, exponents, piece, exponent, others -/
def rd_pair_in : TDS := (dSeq (dAsg (dNew (fLc (iSeqD (dNew (fSplit (oSlot 0) (oVal (dC (.str ("^" : Str))))))) [3] (gN 3) dYes (dApp sp_integer_in (aCons (dVar 3) aNil)))) (gStarD 1 (gConsD (gN 1) (gConsD (gN 2) gNilD)))) (dSeq (dIfS (dOr (dTest (dOp fIs (oSlot 1) (oVal (dC .non)))) (dNot (dTest (dChain fLe fLe (oVal (dC (.int 2))) (oSlot 1) (oVal (dC (.int 100000000000000000000))))))) (dRet (dC .non)) dNext) (dSeq (dIfS (dTest (dOp fEq (oSlot 2) (oVal (dNew (fLst aNil))))) (dRet (dTup (aCons (dVar 1) (aCons (dC (.int 1)) aNil)))) dNext) (dSeq (dAsg (dVar 2) (gStarD 1 (gConsD (gN 4) (gConsD (gN 5) gNilD)))) (dRet (dIf (dAnd (dTest (dOp fEq (oSlot 5) (oVal (dNew (fLst aNil))))) (dAnd (dTest (dOp fIsNot (oSlot 4) (oVal (dC .non)))) (dTest (dOp fGt (oSlot 4) (oVal (dC (.int 1))))))) (dTup (aCons (dVar 1) (aCons (dVar 4) aNil))) (dC .non)))))))
/-- Number.read: slots cls, text, pairs, word -/
def rd_Number_read (K : PySem.W.Frag) (ca : Str → Addr) : TDS := (dSeq (dIfS (dNot (dTru (oVal (dCB (fIsi K ca) (aoCons (oSlot 1) (aoCons (oVal (dC (.ty "str"))) aoNil)))))) dNever dNext) (dSeq (dIfS (dTest (dOp fEq (oSlot 1) (oVal (dC (.str ("1" : Str)))))) (dRet (dIs 0 "Number" (dApp0 sp_Number))) dNext) (dSeq (dAsg (dNew (fLc (iSeqD (dNew (fSplit (oSlot 1) (oVal (dC (.str ("*" : Str))))))) [3] (gN 3) dYes (dApp sp_pair_in (aCons (dVar 3) aNil)))) (gN 2)) (dSeq (dIfS (dTest (dOp fIn (oVal (dC .non)) (oSlot 2))) dNever dNext) (dRet (dIs 0 "Number" (dAppS sp_Number (oSlot 2))))))))
/-- _law_cell: slots _law_script, _law_k, _law_mixed_here, _law_cell_here -/
def rd_law_cell : TDS := (dSeq (dIfS (dTest (dOp fLt (oSlot 1) (oVal (dCB fLen (aoCons (oSlot 0) aoNil))))) (dRet (dOp fIx (oSlot 0) (oSlot 1))) dNext) (dSeq (dAsg (dOp fMod (oVal (dOp fMul (oVal (dC (.int 70001))) (oVal (dOp fAdd (oVal (dOp fAdd (oVal (dOp fMul (oSlot 1) (oSlot 1))) (oVal (dOp fMul (oVal (dC (.int 9))) (oSlot 1))))) (oVal (dC (.int 5))))))) (oVal (dC (.int 1000000103)))) (gN 2)) (dSeq (dFor (iSeqD (dNew (fSl (oSlot 0) dNoPart (dPart (oVal (dC (.int 4))))))) (gN 3) (dAsg (dOp fMod (oVal (dOp fAdd (oVal (dOp fMul (oSlot 2) (oVal (dC (.int 41011))))) (oSlot 3))) (oVal (dC (.int 1000000103)))) (gN 2))) (dRet (dVar 2)))))
/-- _law_mixed: slots _law_source_here, _law_things, _law_left, _law_found, _law_turn -/
def rd_law_mixed : TDS := (dSeq (dOwn2 (fCB fListB (aoCons (oSlot 1) aoNil)) (fLst aNil) 2 3) (dSeq (dFor (iRange1 (aoCons (oVal (dCB fLen (aoCons (oSlot 1) aoNil))) aoNil)) (gN 4) (dExpr (dMeth 3 fAppend (aCons (dMeth 2 fPopAt (aCons (dApp sp_law_draw (aCons (dVar 0) (aCons (dCB fLen (aoCons (oSlot 2) aoNil)) aNil))) aNil)) aNil)))) (dRet (dVar 3))))
/-- _law_primes: slots _law_source_here, _law_most, _law_every -/
def rd_law_primes : TDS := (dSeq (dAsg (dNew (fLst (aCons (dC (.int 2)) (aCons (dC (.int 3)) (aCons (dC (.int 5)) (aCons (dC (.int 7)) (aCons (dC (.int 11)) (aCons (dC (.int 13)) (aCons (dC (.int 101)) (aCons (dC (.int 65537)) (aCons (dC (.int 1000000007)) (aCons (dC (.int 2147483647)) (aCons (dC (.int 4294967291)) aNil))))))))))))) (gN 2)) (dSeq (dAsg (dNew (fCat (oSlot 2) (oVal (dNew (fLst (aCons (dC (.int 9999999929)) (aCons (dC (.int 9999999943)) (aCons (dC (.int 9999999967)) aNil)))))))) (gN 2)) (dRet (dNew (fCB fSorted (aoCons (oVal (dNew (fSl (oVal (dApp sp_law_mixed (aCons (dVar 0) (aCons (dVar 2) aNil)))) dNoPart (dPart (oVal (dOp fAdd (oVal (dC (.int 1))) (oVal (dApp sp_law_draw (aCons (dVar 0) (aCons (dVar 1) aNil)))))))))) aoNil))))))
/-- _law_exps: slots _law_source_here, _law_primes_here, _law_found, _law_prime, _law_some -/
def rd_law_exps : TDS := (dSeq (dOwn (fLst aNil) 2) (dSeq (dFor (iSeqD (dVar 1)) (gN 3) (dSeq (dAsg (dNew (fLst (aCons (dC (.int 0)) (aCons (dC (.int 1)) (aCons (dApp sp_law_draw (aCons (dVar 0) (aCons (dC (.int 4)) aNil))) (aCons (dApp sp_law_draw (aCons (dVar 0) (aCons (dC (.int 20)) aNil))) (aCons (dApp sp_law_draw (aCons (dVar 0) (aCons (dOp fPow (oVal (dC (.int 10))) (oVal (dC (.int 30)))) aNil))) (aCons (dOp fPow (oVal (dC (.int 10))) (oVal (dC (.int 30)))) aNil)))))))) (gN 4)) (dExpr (dMeth 2 fAppend (aCons (dOp fIx (oSlot 4) (oVal (dApp sp_law_draw (aCons (dVar 0) (aCons (dC (.int 6)) aNil))))) aNil))))) (dRet (dVar 2))))
/-- _law_writing: slots _law_source_here, _law_primes_here, _law_exps_here, _law_left, _law_found, _law_turn, _law_some, _law_base, _law_most, _law_k, _law_prime, _law_many, _law_high, _law_low -/
def rd_law_writing : TDS := (dSeq (dOwnR (dNew (fCB fListB (aoCons (oSlot 2) aoNil))) (fLst aNil) 3 4) (dSeq (dFor (iRange1 (aoCons (oVal (dApp sp_law_draw (aCons (dVar 0) (aCons (dC (.int 4)) aNil)))) aoNil)) (gN 5) (dSeq (dAsg (dNew (fLc (iSeqD (dVar 3)) [12] (gN 12) dYes (dCB fMinB (aoCons (oVal (dApp sp_law_draw (aCons (dVar 0) (aCons (dC (.int 3)) aNil)))) (aoCons (oSlot 12) aoNil))))) (gN 6)) (dSeq (dOwnR (dC (.int 1)) (fLst aNil) 7 8) (dSeq (dFor (iEnumD (aCons (dVar 1) aNil)) (gTupD 2 (gConsD (gN 9) (gConsD (gN 10) gNilD))) (dSeq (dAsg (dOp fMul (oSlot 7) (oVal (dOp fIx (oVal (dNew (fLst (aCons (dC (.int 1)) (aCons (dVar 10) (aCons (dOp fMul (oSlot 10) (oSlot 10)) aNil)))))) (oVal (dOp fIx (oSlot 6) (oSlot 9)))))) (gN 7)) (dIfS (dTest (dOp fGt (oVal (dOp fIx (oSlot 6) (oSlot 9))) (oVal (dC (.int 0))))) (dExpr (dMeth 8 fAppend (aCons (dOp fFdiv (oVal (dOp fIx (oSlot 3) (oSlot 9))) (oVal (dOp fIx (oSlot 6) (oSlot 9)))) aNil))) dNext))) (dIfS (dAnd (dTest (dOp fNe (oSlot 8) (oVal (dNew (fLst aNil))))) (dTest (dOp fLe (oSlot 7) (oVal (dOp fPow (oVal (dC (.int 10))) (oVal (dC (.int 20)))))))) (dSeq (dAsg (dOp fIx (oVal (dNew (fLst (aCons (dC (.int 1)) (aCons (dCB fMinB (aoCons (oSlot 8) aoNil)) (aCons (dOp fAdd (oVal (dC (.int 1))) (oVal (dApp sp_law_draw (aCons (dVar 0) (aCons (dCB fMinB (aoCons (oSlot 8) aoNil)) aNil))))) aNil)))))) (oVal (dApp sp_law_draw (aCons (dVar 0) (aCons (dC (.int 3)) aNil))))) (gN 11)) (dSeq (dAsg (dNew (fLc (iZipD (aCons (dVar 3) (aCons (dVar 6) aNil))) [12, 13] (gTupD 2 (gConsD (gN 12) (gConsD (gN 13) gNilD))) dYes (dOp fSub (oSlot 12) (oVal (dOp fMul (oSlot 11) (oSlot 13)))))) (gN 3)) (dExpr (dMeth 4 fAppend (aCons (dTup (aCons (dVar 7) (aCons (dVar 11) aNil))) aNil))))) dNext))))) (dSeq (dOwn (fCat (oSlot 4) (oVal (dNew (fLc (iZipD (aCons (dVar 1) (aCons (dVar 3) aNil))) [10, 12] (gTupD 2 (gConsD (gN 10) (gConsD (gN 12) gNilD))) (dTest (dOp fGt (oSlot 12) (oVal (dC (.int 0))))) (dTup (aCons (dVar 10) (aCons (dVar 12) aNil))))))) 4) (dRet (dCB fTupleB (aoCons (oVal (dApp sp_law_mixed (aCons (dVar 0) (aCons (dVar 4) aNil)))) aoNil))))))
/-- _law_text: slots _law_powers, _law_words, _law_base, _law_many -/
def rd_law_text : TDS := (dSeq (dAsg (dNew (fLc (iSeqD (dVar 0)) [2, 3] (gTupD 2 (gConsD (gN 2) (gConsD (gN 3) gNilD))) dYes (dOp fAdd (oVal (dCB fStrB (aoCons (oSlot 2) aoNil))) (oVal (dIf (dTest (dOp fGt (oSlot 3) (oVal (dC (.int 1))))) (dOp fAdd (oVal (dC (.str ("^" : Str)))) (oVal (dCB fStrB (aoCons (oSlot 3) aoNil)))) (dC (.str ("" : Str)))))))) (gN 1)) (dRet (dIf (dTest (dOp fNe (oSlot 1) (oVal (dNew (fLst aNil))))) (dJoin (oVal (dC (.str ("*" : Str)))) (oSlot 1)) (dC (.str ("1" : Str))))))
/-- _law_number: slots _law_source_here, _law_powers -/
def rd_law_number : TDS := (dSeq (dIfS (dOr (dTest (dOp fGt (oVal (dCB fLen (aoCons (oSlot 1) aoNil))) (oVal (dC (.int 4))))) (dTest (dOp fEq (oVal (dApp sp_law_draw (aCons (dVar 0) (aCons (dC (.int 3)) aNil)))) (oVal (dC (.int 0)))))) (dRet (dCMeth "Number" sp_Number_read (aCons (dApp sp_law_text (aCons (dVar 1) aNil)) aNil))) dNext) (dSeq (dIfS (dTest (dOp fLt (oVal (dCB fLen (aoCons (oSlot 1) aoNil))) (oVal (dC (.int 2))))) (dRet (dIf (dTest (dOp fEq (oSlot 1) (oVal (dTup aNil)))) (dApp0 sp_Number) (dApp sp_Number (aCons (dOp fIx (oSlot 1) (oVal (dC (.int 0)))) aNil)))) dNext) (dSeq (dIfS (dTest (dOp fEq (oVal (dCB fLen (aoCons (oSlot 1) aoNil))) (oVal (dC (.int 2))))) (dRet (dApp sp_Number (aCons (dOp fIx (oSlot 1) (oVal (dC (.int 0)))) (aCons (dOp fIx (oSlot 1) (oVal (dC (.int 1)))) aNil)))) dNext) (dSeq (dIfS (dTest (dOp fEq (oVal (dCB fLen (aoCons (oSlot 1) aoNil))) (oVal (dC (.int 3))))) (dRet (dApp sp_Number (aCons (dOp fIx (oSlot 1) (oVal (dC (.int 0)))) (aCons (dOp fIx (oSlot 1) (oVal (dC (.int 1)))) (aCons (dOp fIx (oSlot 1) (oVal (dC (.int 2)))) aNil))))) dNext) (dRet (dApp sp_Number (aCons (dOp fIx (oSlot 1) (oVal (dC (.int 0)))) (aCons (dOp fIx (oSlot 1) (oVal (dC (.int 1)))) (aCons (dOp fIx (oSlot 1) (oVal (dC (.int 2)))) (aCons (dOp fIx (oSlot 1) (oVal (dC (.int 3)))) aNil))))))))))
/-- _law_made: slots _law_source_here, _law_primes_here, _law_exps_here -/
def rd_law_made : TDS := (dRet (dApp sp_law_number (aCons (dVar 0) (aCons (dApp sp_law_writing (aCons (dVar 0) (aCons (dVar 1) (aCons (dVar 2) aNil)))) aNil))))
end DL
set_option Elab.async false
set_option linter.all false
set_option maxRecDepth 100000
set_option maxHeartbeats 4000000
set_option exponentiation.threshold 10000
/-! QB: the laws' helpers over numbers: mixed, primes, exps, cell -/
namespace DL
open PySem PySem.Spec L2 DM
theorem atI_nat {α : Type} {xs : List α} {n : Nat} (h : n < xs.length) : atI xs (n : Int) = some xs[n] := by
  unfold atI ixN
  rw [if_pos (by omega), if_pos (by omega)]
  simp [h]
theorem seqIndex_nat {n m : Nat} (h : n < m) : seqIndex? (n : Int) m = some n := by
  unfold seqIndex?
  simp
  omega
theorem fIx_lst {xs : List D} {n : Nat} (h : n < xs.length) : fIx (.lst xs) (.int n) = some xs[n] := atI_nat h
theorem fIx_tup {xs : List D} {n : Nat} (h : n < xs.length) : fIx (.tup xs) (.int n) = some xs[n] := atI_nat h
theorem fIx_klst {xs : List D} {n : Nat} (h : n < xs.length) : fIx (.klst xs) (.int n) = some xs[n] := atI_nat h
theorem fPop_nat {xs : List D} {n : Nat} (h : n < xs.length) (hl : xs.length ≤ 2 ^ 62) : fPopAt xs [.int n] = some (xs[n], xs.eraseIdx n) := by
  unfold fPopAt
  simp only [seqIndex_nat h, List.getElem?_eq_getElem h]
  exact if_pos ⟨by omega, by omega⟩
theorem fApp {xs : List D} {d : D} (h : xs.length < 10000000) : fAppend xs [d] = some (.non, xs ++ [d]) := if_pos (by rw [sizeLine_eq]; omega)
theorem erase_perm {α : Type} : ∀ {l : List α} {n : Nat} (h : n < l.length), ([l[n]] ++ l.eraseIdx n).Perm l
  | a :: l, 0, _ => List.Perm.refl _
  | a :: l, n + 1, h => by
    have hn : n < l.length := Nat.lt_of_succ_lt_succ h
    have ih := erase_perm (l := l) (n := n) hn
    show ([l[n]] ++ a :: l.eraseIdx n).Perm (a :: l)
    exact List.Perm.trans (List.perm_middle (l₁ := [l[n]])) (ih.cons a)
theorem mixed_loop {xs : List D} (hl : xs.length ≤ 1000) {X0 X1 : Ent} (h0 : X0 = .sh .src) {Q : DEnv → Prop} {rt : D → Prop} (hQ : ∀ ys t, ys.Perm xs → Q [X0, X1, .ol [], .ol ys, t]) : ∀ (rs left found : List D) (t : Ent), rs.length = left.length → (found ++ left).Perm xs →
    forL (fun _ => True) (gN 4) (dExpr (dMeth 3 fAppend (aCons (dMeth 2 fPopAt (aCons (dApp sp_law_draw (aCons (dVar 0) (aCons (dCB fLen (aoCons (oSlot 2) aoNil)) aNil))) aNil)) aNil))) { nx := Q, rt := rt } rs [X0, X1, .ol left, .ol found, t]
  | [], left, found, t, hr, hp => by
    have e : left = [] := List.eq_nil_of_length_eq_zero hr.symm
    subst e
    exact ⟨trivial, hQ _ _ (by simpa using hp)⟩
  | r :: rs, left, found, t, hr, hp => by
    subst h0
    have hlen := hp.length_eq
    rw [List.length_append] at hlen
    rw [List.length_cons] at hr
    refine ⟨trivial, ⟨found, rfl⟩, ⟨left, rfl⟩, _, _, rfl, rfl, left.length, rfl, by omega, Nat.lt_of_lt_of_le (show left.length < 2 ^ 10 by omega) (Nat.pow_le_pow_right (by decide) (by decide)), fun n hn => ?_⟩
    refine ⟨left, _, _, rfl, fPop_nat hn (by omega), found, _, _, rfl, fApp (by omega), ?_⟩
    refine mixed_loop hl rfl hQ rs _ _ _ (by rw [List.length_eraseIdx_of_lt hn]; omega) ?_
    refine List.Perm.trans ?_ hp
    rw [List.append_assoc]
    refine List.Perm.append_left _ ?_
    exact erase_perm hn
theorem does_law_mixed : Does 5 rd_law_mixed sp_law_mixed := by
  rintro ds Q ⟨xs, rfl, hl, hQ⟩
  refine ⟨_, _, rfl, rfl, len_line rfl, Nat.le_of_ble_eq_true rfl, Nat.le_of_ble_eq_true rfl, by decide, ?_⟩
  refine ⟨_, _, rfl, rfl, xs.length, rfl, by omega, by omega, ?_⟩
  exact mixed_loop hl rfl (fun ys t hp => hQ ys hp) _ xs [] _ (by simp) (by simp)
/-! ### primes -/
def unI : D → Nat
  | .int i => i.toNat
  | _ => 0
theorem ints_perm {ys : List D} {ns : List Nat} (h : ys.Perm (intsD ns)) : ∃ ms : List Nat, ms.Perm ns ∧ ys = intsD ms := by
  refine ⟨ys.map unI, ?_, ?_⟩
  · have h2 := h.map unI
    have e : (intsD ns).map unI = ns := by
      unfold intsD
      rw [List.map_map]
      have : (unI ∘ fun n : Nat => D.int n) = id := by
        funext n
        show (n : Int).toNat = n
        omega
      rw [this, List.map_id]
    rwa [e] at h2
  · unfold intsD
    rw [List.map_map]
    have : ∀ y ∈ ys, ((fun n : Nat => D.int n) ∘ unI) y = y := fun y hy => by
      obtain ⟨n, _, e⟩ := List.mem_map.mp (h.mem_iff.mp hy)
      subst e
      show D.int (((n : Int).toNat : Nat) : Int) = _
      congr 1
    rw [List.map_congr_left this, List.map_id']
theorem cutD_take {xs : List D} {n : Nat} : cutD xs none (some (n : Int)) = xs.take n := by
  unfold cutD
  have e1 : HT.sIx xs.length 0 none = 0 := rfl
  have e2 : HT.sIx xs.length xs.length (some (n : Int)) = min n xs.length := by
    unfold HT.sIx
    simp
    omega
  rw [e1, e2, List.drop_zero, Nat.sub_zero]
  rw [Nat.min_def]
  split
  · rfl
  · rw [List.take_of_length_le (Nat.le_refl _), List.take_of_length_le (by omega)]
end DL
set_option Elab.async false
set_option linter.all false
set_option maxRecDepth 100000
set_option maxHeartbeats 4000000
set_option exponentiation.threshold 10000
/-! QC: primes, exps, cell -/
namespace DL
open PySem PySem.Spec L2 DM
theorem isort_nat (ns : List Nat) : ∃ ms : List Nat, ms.Perm ns ∧ (isortI (ns.map fun n : Nat => (n : Int))).map D.int = intsD ms := by
  have hp := (isortI_perm (ns.map fun n : Nat => (n : Int))).map D.int
  rw [List.map_map] at hp
  exact ints_perm hp
theorem small_8000 {n : Nat} (h : n ≤ 10 ^ 100) : n < 2 ^ 8000 := Nat.lt_of_le_of_lt h (Nat.lt_of_lt_of_le (show 10 ^ 100 < 2 ^ 400 by decide) (Nat.pow_le_pow_right (by decide) (by decide)))
theorem fSorted_nat (ns : List Nat) : fSorted [.lst (intsD ns)] = some ((isortI (ns.map fun n : Nat => (n : Int))).map D.int) := by
  show (intsOf (intsD ns)).map _ = _
  rw [intsOf_nat] <;> rfl
theorem fAdd_nat (a b : Nat) : fAdd (.int a) (.int b) = some (.int ((a + b : Nat) : Int)) := by
  have e1 : ((a + b : Nat) : Int) = (a : Int) + (b : Int) := by simp
  rw [e1]
  rfl
theorem does_law_primes : Does 3 rd_law_primes sp_law_primes := by
  rintro ds Q ⟨m, rfl, h0, hm, hQ⟩
  refine ⟨len_line rfl, len_line rfl, _, _, rfl, rfl, le_line (Nat.le_of_ble_eq_true rfl), _, rfl, Nat.le_of_ble_eq_true rfl, fun ys hy => ?_⟩
  obtain ⟨ms, hms, rfl⟩ := ints_perm (ns := lawPrimes) hy
  refine ⟨m, rfl, h0, small_8000 (by omega), fun r hr => ?_⟩
  refine ⟨_, _, _, rfl, rfl, fAdd_nat 1 r, _, rfl, _, _, rfl, rfl, ?_⟩
  rw [cutD_take]
  have e1 : (intsD ms).take (1 + r) = intsD (ms.take (1 + r)) := by
    unfold intsD
    rw [List.map_take]
  rw [e1]
  obtain ⟨ps, hps, e2⟩ := isort_nat (ms.take (1 + r))
  refine ⟨_, _, rfl, fSorted_nat _, ?_⟩
  rw [e2]
  have hl := hps.length_eq
  have hml := hms.length_eq
  rw [List.length_take] at hl
  have h14 : lawPrimes.length = 14 := rfl
  have hnd : lawPrimes.Nodup := by decide +kernel
  refine hQ ps ⟨hps.nodup_iff.mpr ((List.take_sublist _ _).nodup (hms.nodup_iff.mpr hnd)), fun p hp => hms.mem_iff.mp (List.mem_of_mem_take (hps.mem_iff.mp hp))⟩ (by omega) (by omega)
theorem fPow_1030 : fPow (.int 10) (.int 30) = some (.int ((10 ^ 30 : Nat) : Int)) := by
  have h : CPow 10 30 := ⟨by decide, by decide, by decide⟩
  show (if CPow 10 30 then some (D.int ((10 : Int) ^ (30 : Int).toNat)) else none) = _
  rw [if_pos h]
  rfl
theorem exps_loop {ps : List Nat} {Q : DEnv → Prop} {rt : D → Prop} (hl : ps.length ≤ 14) (hQ : ∀ (es : List Nat) t1 t2, es.length = ps.length → (∀ e ∈ es, e ≤ 10 ^ 30) → Q [.sh .src, .sh (.lst (intsD ps)), .ol (intsD es), t1, t2]) : ∀ (rs found : List Nat) (t1 t2 : Ent), found.length + rs.length = ps.length → (∀ e ∈ found, e ≤ 10 ^ 30) →
    forL (fun _ => True) (gN 3) (dSeq (dAsg (dNew (fLst (aCons (dC (.int 0)) (aCons (dC (.int 1)) (aCons (dApp sp_law_draw (aCons (dVar 0) (aCons (dC (.int 4)) aNil))) (aCons (dApp sp_law_draw (aCons (dVar 0) (aCons (dC (.int 20)) aNil))) (aCons (dApp sp_law_draw (aCons (dVar 0) (aCons (dOp fPow (oVal (dC (.int 10))) (oVal (dC (.int 30)))) aNil))) (aCons (dOp fPow (oVal (dC (.int 10))) (oVal (dC (.int 30)))) aNil)))))))) (gN 4)) (dExpr (dMeth 2 fAppend (aCons (dOp fIx (oSlot 4) (oVal (dApp sp_law_draw (aCons (dVar 0) (aCons (dC (.int 6)) aNil))))) aNil))))
      { nx := Q, rt := rt } (intsD rs) [.sh .src, .sh (.lst (intsD ps)), .ol (intsD found), t1, t2]
  | [], found, t1, t2, h, hf => ⟨trivial, hQ found t1 t2 (by simpa using h) hf⟩
  | r :: rs, found, t1, t2, h, hf => by
    rw [List.length_cons] at h
    refine ⟨trivial, 4, rfl, by decide, small_8000 (by decide), fun a ha => ⟨20, rfl, by decide, small_8000 (by decide), fun b hb => ?_⟩⟩
    refine ⟨_, _, _, rfl, rfl, fPow_1030, 10 ^ 30, rfl, by decide, small_8000 (Nat.pow_le_pow_right (by decide) (by decide)), fun c hc => ⟨_, _, _, rfl, rfl, fPow_1030, len_line rfl, ⟨_, rfl⟩, 6, rfl, by decide, small_8000 (by decide), fun j hj => ?_⟩⟩
    have hj2 : j < (intsD [0, 1, a, b, c, 10 ^ 30]).length := hj
    refine ⟨_, _, _, rfl, rfl, fIx_lst (xs := intsD [0, 1, a, b, c, 10 ^ 30]) hj2, _, _, _, rfl, fApp (by unfold intsD; rw [List.length_map]; omega), ?_⟩
    obtain ⟨x, hx, hxl⟩ : ∃ x : Nat, (intsD [0, 1, a, b, c, 10 ^ 30])[j] = .int x ∧ x ≤ 10 ^ 30 := by
      have hm : (intsD [0, 1, a, b, c, 10 ^ 30])[j] ∈ intsD [0, 1, a, b, c, 10 ^ 30] := List.getElem_mem _
      obtain ⟨x, hx, e⟩ := List.mem_map.mp hm
      refine ⟨x, e.symm, ?_⟩
      simp at hx
      omega
    rw [hx]
    have e3 : intsD found ++ [D.int x] = intsD (found ++ [x]) := by
      unfold intsD
      rw [List.map_append] <;> rfl
    rw [e3]
    refine exps_loop hl hQ rs _ _ _ (by rw [List.length_append]; simp; omega) fun e he => ?_
    rcases List.mem_append.mp he with he | he
    · exact hf e he
    · rw [List.mem_singleton.mp he]
      exact hxl
theorem does_law_exps : Does 5 rd_law_exps sp_law_exps := by
  rintro ds Q ⟨ps, rfl, hl, hQ⟩
  refine ⟨len_line rfl, Nat.le_of_ble_eq_true rfl, _, rfl, ?_⟩
  exact exps_loop hl (fun es t1 t2 h1 h2 => hQ es h1 h2) ps [] _ _ (by simp) (fun e he => nomatch he)
theorem cell_loop {Q : DEnv → Prop} {rt : D → Prop} {X0 X1 : Ent} (hQ : ∀ (i : Int) t, Q [X0, X1, .sh (.int i), t]) : ∀ (rs : List Int) (i : Int) (t : Ent),
    forL (fun _ => True) (gN 3) (dAsg (dOp fMod (oVal (dOp fAdd (oVal (dOp fMul (oSlot 2) (oVal (dC (.int 41011))))) (oSlot 3))) (oVal (dC (.int 1000000103)))) (gN 2)) { nx := Q, rt := rt } (rs.map D.int) [X0, X1, .sh (.int i), t]
  | [], i, t => ⟨trivial, hQ i t⟩
  | r :: rs, i, t => by
    refine ⟨trivial, _, _, _, rfl, rfl, fMul_small (.inr ⟨by decide, by decide⟩), _, _, _, rfl, rfl, rfl, _, _, _, rfl, rfl, fMod_pos (by decide), ?_⟩
    exact cell_loop hQ rs _ _
theorem does_law_cell : Does 4 rd_law_cell sp_law_cell := by
  rintro ds Q ⟨ns, k, rfl, hk, hQ⟩
  refine ⟨_, _, rfl, rfl, _, _, _, rfl, rfl, rfl, _, rfl, ?_⟩
  by_cases h : ((k : Int) < ((ns.map D.int).length : Int))
  · rw [decide_eq_true h]
    have h2 : k < (ns.map D.int).length := by omega
    refine ⟨_, _, _, rfl, rfl, fIx_klst h2, ?_⟩
    rw [List.getElem_map]
    exact hQ _
  · rw [decide_eq_false h]
    refine ⟨_, _, _, rfl, rfl, fMul_small (.inr ⟨by omega, by omega⟩), _, _, _, rfl, rfl, fMul_small (.inl ⟨by decide, by decide⟩), _, _, _, rfl, rfl, rfl, _, _, _, rfl, rfl, rfl, _, _, _, rfl, rfl, fMul_small (.inl ⟨by decide, by decide⟩), _, _, _, rfl, rfl, fMod_pos (by decide), ?_⟩
    refine ⟨_, rfl, _, _, rfl, rfl, _, rfl, ?_⟩
    have e : cutD (ns.map D.int) none (some 4) = (ns.take 4).map D.int := by
      rw [show (some (4 : Int)) = some ((4 : Nat) : Int) from rfl, cutD_take, List.map_take]
    rw [e]
    exact cell_loop (fun i t => hQ i) _ _ _
end DL
set_option Elab.async false
set_option linter.all false
set_option maxRecDepth 100000
set_option maxHeartbeats 4000000
set_option exponentiation.threshold 10000
/-! QS: a source -/
namespace DL
open PySem PySem.Spec L2 DM
/-- _law_source: slots _law_cell_here, _law_digits -/
def rd_law_source : TDS := (dSeq (dAsg (dIf (dOr (dTest (dOp fLt (oSlot 0) (oVal (dC (.int 0))))) (dTest (dOp fGe (oSlot 0) (oVal (dOp fPow (oVal (dC (.int 10))) (oVal (dC (.int 18)))))))) (dCB fAbs (aoCons (oSlot 0) aoNil)) (dC (.int 0))) (gN 1)) (dRet (dNew (fLst (aCons (dVar 1) (aCons (dOp fAdd (oVal (dOp fMul (oVal (dOp fMod (oSlot 0) (oVal (dC (.int 1000000103))))) (oVal (dC (.int 8011))))) (oVal (dC (.int 6007)))) (aCons (dC (.int 0)) aNil)))))))
theorem fPow_1018 : fPow (.int 10) (.int 18) = some (.int ((10 ^ 18 : Nat) : Int)) := by
  have h : CPow 10 18 := ⟨by decide, by decide, by decide⟩
  show (if CPow 10 18 then some (D.int ((10 : Int) ^ (18 : Int).toNat)) else none) = _
  rw [if_pos h]
  rfl
theorem does_law_source : Does 2 rd_law_source sp_law_sourceL := by
  rintro ds Q ⟨i, rfl, hQ⟩
  refine ⟨_, _, _, rfl, rfl, rfl, _, rfl, ?_⟩
  by_cases h : i < 0
  · rw [decide_eq_true h]
    exact ⟨_, _, rfl, rfl, _, _, _, rfl, rfl, fMod_pos (by decide), _, _, _, rfl, rfl, fMul_small (.inr ⟨by decide, by decide⟩), _, _, _, rfl, rfl, rfl, len_line rfl, hQ _ _ _⟩
  · rw [decide_eq_false h]
    refine ⟨_, _, _, rfl, rfl, fPow_1018, _, _, _, rfl, rfl, rfl, _, rfl, ?_⟩
    by_cases h2 : (((10 ^ 18 : Nat) : Int)) ≤ i
    · rw [decide_eq_true h2]
      exact ⟨_, _, rfl, rfl, _, _, _, rfl, rfl, fMod_pos (by decide), _, _, _, rfl, rfl, fMul_small (.inr ⟨by decide, by decide⟩), _, _, _, rfl, rfl, rfl, len_line rfl, hQ _ _ _⟩
    · rw [decide_eq_false h2]
      exact ⟨_, _, _, rfl, rfl, fMod_pos (by decide), _, _, _, rfl, rfl, fMul_small (.inr ⟨by decide, by decide⟩), _, _, _, rfl, rfl, rfl, len_line rfl, hQ _ _ _⟩
end DL
set_option Elab.async false
set_option linter.all false
set_option maxRecDepth 100000
set_option maxHeartbeats 4000000
set_option exponentiation.threshold 10000
/-! QD: texts of numbers written and read back -/
namespace DL
open PySem PySem.Spec L2 DM
open TL (tl numL)
theorem tl_strN (n : Nat) : tl (strN n) = numL n := TL.tl_num n
theorem tl_fact (p : Nat × Nat) : tl (factText p) = if 1 < p.2 then numL p.1 ++ 94 :: numL p.2 else numL p.1 := by
  unfold factText
  rw [TL.tl_append, tl_strN]
  split
  · rw [TL.tl_append, tl_strN]
    rfl
  · show numL p.1 ++ [] = _
    rw [List.append_nil]
theorem len_strN {n k : Nat} (hk : 0 < k) (h : n < 10 ^ k) : (strN n).length ≤ k := by
  rw [TL.len_tl, tl_strN]
  exact TL.numL_len hk h
theorem len_fact {p : Nat × Nat} (h1 : p.1 ≤ 10 ^ 20) (h2 : p.2 ≤ 10 ^ 100) : (factText p).length ≤ 130 := by
  rw [TL.len_tl, tl_fact]
  have a := TL.numL_len (n := p.1) (k := 21) (by decide) (Nat.lt_of_le_of_lt h1 (by decide))
  have b := TL.numL_len (n := p.2) (k := 101) (by decide) (Nat.lt_of_le_of_lt h2 (by decide))
  split
  · rw [List.length_append, List.length_cons]
    omega
  · omega
theorem fStr_nat {n : Nat} (h : n ≤ 10 ^ 101) : fStrB [.int n] = some (.str (strN n)) := by
  show (if (n : Int).natAbs.log2 < 1920 then some (D.str (strN n)) else none) = _
  rw [if_pos]
  rw [Int.natAbs_natCast]
  exact Nat.lt_of_lt_of_le (log2_lt (k := 340) (Nat.lt_of_le_of_lt h (by decide)) (by decide)) (by decide)
theorem fAdd_str {a b : Str} (h : a.length + b.length ≤ 1000000) : fAdd (.str a) (.str b) = some (.str (a ++ b)) := if_pos (by rw [sizeLine_eq]; omega)
/-! == of data -/
theorem fEq_of {a b : D} {x y : PyData} (ha : toPy a = some x) (hb : toPy b = some y) (sx : SeqAt.shaped x = true) (sy : SeqAt.shaped y = true) : fEq a b = some (.bl (PyData.eqv x y)) := by
  unfold fEq eqD
  rw [ha, hb]
  show (if SeqAt.shaped x = true ∧ SeqAt.shaped y = true then some (PyData.eqv x y) else none).map D.bl = _
  rw [if_pos ⟨sx, sy⟩] <;> rfl
theorem fNe_of {a b : D} {x y : PyData} (ha : toPy a = some x) (hb : toPy b = some y) (sx : SeqAt.shaped x = true) (sy : SeqAt.shaped y = true) : fNe a b = some (.bl (!PyData.eqv x y)) := by
  unfold fNe eqD
  rw [ha, hb]
  show (if SeqAt.shaped x = true ∧ SeqAt.shaped y = true then some (PyData.eqv x y) else none).map _ = _
  rw [if_pos ⟨sx, sy⟩] <;> rfl
def okS (x : Str) : Prop := ∀ c ∈ tl x, c < 0x110000
theorem strOk_of {x : Str} (h : okS x) : PyData.strOk x = true := by
  unfold PyData.strOk
  rw [Array.all_eq_true_iff_forall_mem]
  intro c hc
  simp
  exact h c (by simpa using hc)
theorem shp_str {x : Str} (h : okS x) : SeqAt.shaped (.str x) = true := by
  unfold SeqAt.shaped
  rw [PyData.depth, PyData.canLay0, strOk_of h] <;> rfl
theorem toPy_strs : ∀ (xs : List Str), toPyL (xs.map D.str) = some (xs.map PyData.str)
  | [] => rfl
  | x :: xs => by
    show (match toPy (.str x), toPyL (xs.map D.str) with
      | some x, some xs => some (x :: xs)
      | _, _ => none) = _
    rw [toPy_strs xs] <;> rfl
theorem lay_strs : ∀ {xs : List Str}, (∀ x ∈ xs, okS x) → PyData.canLayAll0 (xs.map PyData.str) = true ∧ PyData.depthAll (xs.map PyData.str) = 0
  | [], _ => ⟨rfl, by rw [List.map_nil, PyData.depthAll]⟩
  | x :: xs, h => by
    obtain ⟨a, b⟩ := lay_strs (xs := xs) fun y hy => h y (List.mem_cons_of_mem _ hy)
    refine ⟨?_, ?_⟩
    · show (PyData.canLay0 (.str x) && PyData.canLayAll0 (xs.map PyData.str)) = true
      rw [a, PyData.canLay0, strOk_of (h x List.mem_cons_self)] <;> rfl
    · rw [List.map_cons, PyData.depthAll, b, PyData.depth] <;> rfl
theorem shp_strs {xs : List Str} (h : ∀ x ∈ xs, okS x) : SeqAt.shaped (.list (xs.map PyData.str)) = true := by
  obtain ⟨a, b⟩ := lay_strs h
  unfold SeqAt.shaped
  rw [PyData.depth, b, PyData.canLay0, a] <;> rfl
theorem shp_nil : SeqAt.shaped (.list []) = true := by
  unfold SeqAt.shaped
  rw [PyData.depth, PyData.depthAll, PyData.canLay0] <;> rfl
theorem fNe_strs0 {xs : List Str} (h : ∀ x ∈ xs, okS x) : fNe (.lst (xs.map D.str)) (.lst []) = some (.bl (!xs.isEmpty)) := by
  rw [fNe_of (x := .list (xs.map PyData.str)) (y := .list []) (by show (toPyL _).map PyData.list = _; rw [toPy_strs] <;> rfl) rfl (shp_strs h) shp_nil]
  cases xs with
  | nil => rw [List.map_nil, PyData.eqv, PyData.eqvAll] <;> rfl
  | cons x xs => rw [List.map_cons, PyData.eqv, PyData.eqvAll] <;> rfl
theorem fEq_str {a b : Str} (ha : okS a) (hb : okS b) : fEq (.str a) (.str b) = some (.bl (decide (a = b))) := by
  rw [fEq_of rfl rfl (shp_str ha) (shp_str hb), PyData.eqv]
  by_cases h : a = b
  · subst h
    simp
  · simp [h]
theorem okS_num (n : Nat) : ∀ c ∈ numL n, c < 0x110000 := fun c hc => by
  have := TL.numL_digits n c hc
  omega
theorem okS_fact (p : Nat × Nat) : okS (factText p) := fun c hc => by
  rw [tl_fact] at hc
  split at hc
  · rcases List.mem_append.mp hc with h | h
    · exact okS_num _ c h
    · rcases List.mem_cons.mp h with h | h
      · omega
      · exact okS_num _ c h
  · exact okS_num _ c hc
theorem okS_join {S : List Nat} (hS : ∀ c ∈ S, c < 0x110000) : ∀ {l : List (List Nat)}, (∀ x ∈ l, ∀ c ∈ x, c < 0x110000) → ∀ c ∈ TL.joinL S l, c < 0x110000
  | [], _, c, hc => nomatch hc
  | [a], h, c, hc => h a List.mem_cons_self c hc
  | a :: b :: r, h, c, hc => by
    have hc' : c ∈ a ++ (S ++ TL.joinL S (b :: r)) := hc
    rcases List.mem_append.mp hc' with h1 | h1
    · exact h a List.mem_cons_self c h1
    · rcases List.mem_append.mp h1 with h2 | h2
      · exact hS c h2
      · exact okS_join hS (fun x hx => h x (List.mem_cons_of_mem _ hx)) c h2
theorem tl_text {w : List (Nat × Nat)} (h : w ≠ []) : tl (textOf w) = TL.joinL [42] (w.map fun p => tl (factText p)) := by
  unfold textOf
  rw [if_neg h, TL.join_eq, TL.tl_join, List.map_map]
  rfl
theorem okS_text (w : List (Nat × Nat)) : okS (textOf w) := by
  by_cases h : w = []
  · subst h
    intro c hc
    have hc' : c ∈ [49] := hc
    rw [List.mem_singleton.mp hc']
    decide
  · intro c hc
    rw [tl_text h] at hc
    refine okS_join (by decide) (fun x hx => ?_) c hc
    obtain ⟨p, _, rfl⟩ := List.mem_map.mp hx
    exact okS_fact p
theorem sum_le : ∀ {l : List Nat} {k : Nat}, (∀ x ∈ l, x ≤ k) → l.sum ≤ l.length * k
  | [], _, _ => Nat.zero_le _
  | a :: l, k, h => by
    have h1 := h a List.mem_cons_self
    have h2 := sum_le (l := l) (k := k) fun x hx => h x (List.mem_cons_of_mem _ hx)
    rw [List.sum_cons, List.length_cons, Nat.succ_mul]
    omega
theorem does_law_text : Does 4 rd_law_text sp_law_text := by
  rintro ds Q ⟨w, rfl, ⟨R, hw⟩, hQ⟩
  refine ⟨_, rfl, le_line (by rw [List.length_map]; have := hw.ln; omega), ?_⟩
  show lcL _ [2, 3] _ _ _ _ (w.map pairD) [] [.sh (.tup (w.map pairD)), .un, .un, .un]
  refine lcL_pairs (f := fun p => some (.str (factText p))) trivial (fun p hp K1 hK => ?_) ?_
  · have a1 : p.1 ≤ 10 ^ 20 := (hw.wf.ok p hp).1.hi
    have a2 : p.2 ≤ 10 ^ 100 := hw.sm p hp
    have l1 := len_strN (n := p.1) (k := 21) (by decide) (Nat.lt_of_le_of_lt a1 (by decide))
    have l2 := len_strN (n := p.2) (k := 101) (by decide) (Nat.lt_of_le_of_lt a2 (by decide))
    refine ⟨_, _, rfl, fStr_nat (Nat.le_trans a1 (by decide)), _, _, _, rfl, rfl, rfl, _, rfl, ?_⟩
    by_cases h : 1 < p.2
    · have e1 : decide ((1 : Int) < (p.2 : Int)) = true := decide_eq_true (by omega)
      have e0 : factText p = strN p.1 ++ (("^" : Str) ++ strN p.2) := by unfold factText; rw [if_pos h]
      rw [e1]
      have h3 : (("^" : Str) ++ strN p.2).length ≤ 102 := by
        rw [TL.len_tl, TL.tl_append, List.length_append, ← TL.len_tl, ← TL.len_tl]
        have : ("^" : Str).length = 1 := rfl
        omega
      refine ⟨_, _, rfl, fStr_nat (Nat.le_trans a2 (by decide)), _, _, _, rfl, rfl, fAdd_str (by have : ("^" : Str).length = 1 := rfl; omega), _, _, _, rfl, rfl, fAdd_str (by omega), ?_⟩
      rw [e0] at hK
      exact hK
    · have e1 : decide ((1 : Int) < (p.2 : Int)) = false := decide_eq_false (by omega)
      have e0 : factText p = strN p.1 ++ ("" : Str) := by unfold factText; rw [if_neg h]
      rw [e1]
      refine ⟨_, _, _, rfl, rfl, fAdd_str (by have : ("" : Str).length = 0 := rfl; omega), ?_⟩
      rw [e0] at hK
      exact hK
  · have e1 : ([] ++ w.filterMap fun p => some (D.str (factText p))) = (w.map factText).map D.str := by
      rw [List.nil_append, fm_some, List.map_map] <;> rfl
    rw [e1]
    have hok : ∀ x ∈ w.map factText, okS x := fun x hx => by
      obtain ⟨p, _, rfl⟩ := List.mem_map.mp hx
      exact okS_fact p
    refine ⟨len_line rfl, _, _, _, rfl, rfl, fNe_strs0 hok, _, rfl, ?_⟩
    by_cases h : w = []
    · subst h
      exact hQ
    · have e2 : (!(w.map factText).isEmpty) = true := by
        cases w with
        | nil => exact absurd rfl h
        | cons p w => rfl
      rw [e2]
      refine ⟨⟨_, rfl⟩, _, _, _, w.map factText, rfl, rfl, rfl, strsOf_map _, ?_, ?_⟩
      · have hs := sum_le (l := (w.map factText).map (·.length)) (k := 130) fun x hx => by
          obtain ⟨y, hy, rfl⟩ := List.mem_map.mp hx
          obtain ⟨p, hp, rfl⟩ := List.mem_map.mp hy
          exact len_fact (hw.wf.ok p hp).1.hi (hw.sm p hp)
        have := hw.ln
        have h1 : ("*" : Str).length = 1 := rfl
        rw [List.length_map, List.length_map] at hs
        rw [List.length_map, h1]
        omega
      · have e3 : textOf w = Txt.join ("*" : Str) (w.map factText) := by unfold textOf; rw [if_neg h]
        rw [e3] at hQ
        exact hQ
end DL
set_option Elab.async false
set_option linter.all false
set_option maxRecDepth 100000
set_option maxHeartbeats 4000000
set_option exponentiation.threshold 10000
/-! QE: integer_in, pair_in, Number.read, number, made -/
namespace DL
open PySem PySem.Spec L2 DM
open TL (tl numL)
theorem lcL_map {α : Type} {C : DEnv → Prop} {vs : List Nat} {g : TDG} {tt : TDT} {te : TD} {e : DEnv} {gD : α → D} {f : α → Option D} (hC : C e) : ∀ {w : List α} {acc : List D} {Q : List D → DEnv → Prop},
    (∀ p ∈ w, ∀ K1 : Option D → DEnv → Prop, K1 (f p) e → g (gD p) e fun e1 => tt e1 fun b e2 => if b = true then te e2 fun y e3 => K1 (some y) (wipeE e3 vs) else K1 none (wipeE e2 vs)) →
    Q (acc ++ w.filterMap f) e → lcL C vs g tt te Q (w.map gD) acc e
  | [], acc, Q, _, hQ => ⟨hC, by simpa using hQ⟩
  | p :: w, acc, Q, ht, hQ => ⟨hC, ht p List.mem_cons_self (fun o e' => match o with
      | some y => lcL C vs g tt te Q (w.map gD) (acc ++ [y]) e'
      | none => lcL C vs g tt te Q (w.map gD) acc e') (by
    cases hf : f p with
    | some y => exact lcL_map hC (fun q hq => ht q (List.mem_cons_of_mem _ hq)) (by rw [List.filterMap_cons, hf] at hQ; simpa using hQ)
    | none => exact lcL_map hC (fun q hq => ht q (List.mem_cons_of_mem _ hq)) (by rw [List.filterMap_cons, hf] at hQ; simpa using hQ))⟩
theorem fLen_str {x : Str} (h : x.length ≤ 1000000) : fLen [.str x] = some (.int x.length) := by
  show ((if x.length ≤ sizeLine then some (x.length : Int) else none).map D.int) = _
  rw [if_pos (by rw [sizeLine_eq]; omega)] <;> rfl
theorem fLe_t {i j : Int} (h : i ≤ j) : fLe (.int i) (.int j) = some (.bl true) := by
  show some (D.bl (decide (i ≤ j))) = _
  rw [decide_eq_true h]
theorem fGt_t {i j : Int} (h : j < i) : fGt (.int i) (.int j) = some (.bl true) := by
  show some (D.bl (decide (j < i))) = _
  rw [decide_eq_true h]
theorem numL_head {n : Nat} (h : 0 < n) : ∃ c cs, numL n = c :: cs ∧ c ≠ 48 := by
  induction n using Nat.strongRecOn with
  | _ n ih =>
    by_cases h10 : n < 10
    · exact ⟨48 + n, [], TL.numL_lt h10, by omega⟩
    · obtain ⟨c, cs, e, hc⟩ := ih (n / 10) (by omega) (by omega)
      exact ⟨c, cs ++ [48 + n % 10], by rw [TL.numL_step (by omega), e] <;> rfl, hc⟩
theorem fIx_str0 {x : Str} {c : Nat} {cs : List Nat} (h : tl x = c :: cs) (hl : x.length ≤ 1000000) : fIx (.str x) (.int 0) = some (.str ⟨#[c]⟩) := by
  show (if x.length ≤ sizeLine then (atI x.cps.toList 0).map (fun c => D.str ⟨#[c]⟩) else none) = _
  rw [if_pos (by rw [sizeLine_eq]; omega)]
  have h' : x.cps.toList = c :: cs := h
  rw [h', show (0 : Int) = ((0 : Nat) : Int) from rfl, atI_nat (xs := c :: cs) (n := 0) (Nat.succ_pos _)]
  rfl
theorem fIn_sign {c : Nat} {z : Str} : fIn (.str ⟨#[c]⟩) (.str z) = some (.bl (decide (c ∈ z.cps.toList))) := rfl
theorem items_str {x : Str} (h : x.length ≤ 1000000) : itemsOf (.str x) = some (x.cps.toList.map fun c => D.str ⟨#[c]⟩) := by
  have h2 : x.cps.size ≤ sizeLine := by
    rw [sizeLine_eq]
    have : x.cps.size = x.length := rfl
    omega
  exact if_pos h2
theorem does_integer_in : Does 2 rd_integer_in sp_integer_in := by
  rintro ds Q ⟨n, rfl, h0, hn, hQ⟩
  have hl := len_strN (n := n) (k := 101) (by decide) (Nat.lt_of_le_of_lt hn (by decide))
  obtain ⟨c, cs, hc, hc48⟩ := numL_head h0
  have htl : tl (strN n) = c :: cs := by rw [tl_strN, hc]
  have hlen : (strN n).length = (c :: cs).length := by rw [TL.len_tl, htl]
  have h1 : 1 ≤ (strN n).length := by rw [hlen, List.length_cons]; omega
  have hdig : ∀ d ∈ tl (strN n), d ∈ ("0123456789" : Str).cps.toList := fun d hd => by
    rw [tl_strN] at hd
    have := TL.numL_digits n d hd
    have e : ("0123456789" : Str).cps.toList = [48, 49, 50, 51, 52, 53, 54, 55, 56, 57] := rfl
    rw [e]
    simp
    omega
  have okc : okS ⟨#[c]⟩ := fun d hd => by
    have hd' : d ∈ [c] := hd
    rw [List.mem_singleton.mp hd']
    have := TL.numL_digits n c (by rw [hc]; exact List.mem_cons_self)
    omega
  have hne : decide ((⟨#[c]⟩ : Str) = ("0" : Str)) = false := decide_eq_false fun z => by
    have : tl (⟨#[c]⟩ : Str) = tl ("0" : Str) := by rw [z]
    have : [c] = [48] := this
    simp at this
    exact hc48 this
  refine ⟨_, _, rfl, fLen_str (by omega), _, _, true, rfl, rfl, fLe_t (by omega), _, _, _, rfl, rfl, fLe_t (by omega), _, rfl, ?_⟩
  refine ⟨_, _, _, rfl, rfl, fIx_str0 htl (by omega), _, _, _, rfl, rfl, fEq_str okc (by intro d hd; have hd' : d ∈ [48] := hd; rw [List.mem_singleton.mp hd']; decide), _, rfl, ?_⟩
  rw [hne]
  refine ⟨_, items_str (by omega), le_line (by rw [List.length_map, show (strN n).cps.toList.length = (strN n).length from (TL.len_tl _).symm]; omega), ?_⟩
  show lcL _ [1] _ _ _ _ _ [] [.sh (.str (strN n)), .un]
  refine lcL_map (f := fun c => some (.bl true)) trivial (fun d hd K1 hK => ?_) ?_
  · have hd2 : decide (d ∈ ("0123456789" : Str).cps.toList) = true := decide_eq_true (hdig d hd)
    refine ⟨_, _, _, rfl, rfl, fIn_sign, ?_⟩
    rw [hd2]
    exact hK
  · have e1 : ([] ++ (strN n).cps.toList.filterMap fun c => some (D.bl true)) = ((strN n).cps.toList.map fun _ => true).map D.bl := by
      rw [List.nil_append, fm_some, List.map_map] <;> rfl
    rw [e1]
    refine ⟨_, _, rfl, by show (blsOf _).map _ = _; rw [blsOf_map] <;> rfl, _, _, rfl, rfl, ?_⟩
    have e2 : ((strN n).cps.toList.map fun _ => true).all id = true := by simp
    rw [e2]
    refine ⟨_, _, rfl, ?_, hQ⟩
    show (if (strN n).length ≤ 640 then (PySem.intText? (strN n)).map D.int else none) = _
    rw [if_pos (by omega)]
    have e3 : PySem.intText? (strN n) = some (n : Int) := TL.int_num (by rw [← tl_strN, ← TL.len_tl]; omega)
    rw [e3] <;> rfl
theorem split_fact (p : Nat × Nat) : Txt.split (factText p) ("^" : Str) = if 1 < p.2 then [strN p.1, strN p.2] else [strN p.1] := by
  have hfree : ∀ n, 94 ∉ numL n := fun n => TL.numL_free (.inr (by decide))
  have e : factText p = Txt.join ("^" : Str) (if 1 < p.2 then [strN p.1, strN p.2] else [strN p.1]) := by
    apply TL.ext_tl
    rw [tl_fact, TL.join_eq, TL.tl_join]
    split
    · show numL p.1 ++ 94 :: numL p.2 = tl (strN p.1) ++ ([94] ++ tl (strN p.2))
      rw [tl_strN, tl_strN] <;> rfl
    · show numL p.1 = tl (strN p.1)
      rw [tl_strN]
  rw [e, TL.split_join (s := 94) (S := []) rfl (by decide +kernel) (by split <;> simp)]
  intro q hq
  split at hq
  · rcases List.mem_cons.mp hq with rfl | hq
    · rw [tl_strN]; exact hfree _
    · rw [List.mem_singleton.mp hq, tl_strN]; exact hfree _
  · rw [List.mem_singleton.mp hq, tl_strN]; exact hfree _
theorem does_pair_in : Does 6 rd_pair_in sp_pair_in := by
  rintro ds Q ⟨p, rfl, h1, h2, h3, h4, hQ⟩
  have hl := len_fact h2 h4
  have n4 : decide ((2 : Int) ≤ (p.1 : Int)) = true := decide_eq_true (by omega)
  refine ⟨⟨_, rfl⟩, _, _, rfl, rfl, rfl, by rw [sizeLine_eq]; omega, ?_⟩
  rw [split_fact]
  have go : ∀ (L : List Str) (Z : List D), L = (if 1 < p.2 then [strN p.1, strN p.2] else [strN p.1]) → True := fun _ _ _ => trivial
  by_cases h : 1 < p.2
  · rw [if_pos h]
    refine ⟨_, rfl, len_line rfl, trivial, p.1, rfl, by omega, by omega, trivial, p.2, rfl, by omega, h4, trivial, ?_⟩
    refine ⟨_, rfl, Nat.le_of_ble_eq_true rfl, rfl, ?_⟩
    refine ⟨_, _, _, rfl, rfl, rfl, _, rfl, _, _, true, rfl, rfl, fLe_t (by omega), _, _, _, rfl, rfl, fLe_t (by omega), _, rfl, ?_⟩
    refine ⟨len_line rfl, _, _, _, rfl, rfl, fEq_ints [p.2] [], _, rfl, ?_⟩
    rw [decide_eq_false (List.cons_ne_nil _ _)]
    refine ⟨_, rfl, Nat.le_of_ble_eq_true rfl, rfl, ?_⟩
    refine ⟨len_line rfl, _, _, _, rfl, rfl, fEq_ints [] [], _, rfl, ?_⟩
    rw [decide_eq_true rfl]
    refine ⟨_, _, _, rfl, rfl, rfl, _, rfl, _, _, _, rfl, rfl, fGt_t (by omega), _, rfl, len_line rfl, hQ⟩
  · rw [if_neg h]
    have e1 : p.2 = 1 := by omega
    refine ⟨_, rfl, len_line rfl, trivial, p.1, rfl, by omega, by omega, trivial, ?_⟩
    refine ⟨_, rfl, Nat.le_of_ble_eq_true rfl, rfl, ?_⟩
    refine ⟨_, _, _, rfl, rfl, rfl, _, rfl, _, _, true, rfl, rfl, fLe_t (by omega), _, _, _, rfl, rfl, fLe_t (by omega), _, rfl, ?_⟩
    refine ⟨len_line rfl, _, _, _, rfl, rfl, fEq_ints [] [], _, rfl, ?_⟩
    rw [decide_eq_true rfl]
    refine ⟨len_line rfl, ?_⟩
    have e2 : pairD p = .tup [.int p.1, .int 1] := by unfold pairD; rw [e1] <;> rfl
    rw [e2] at hQ
    exact hQ
end DL
set_option Elab.async false
set_option linter.all false
set_option maxRecDepth 100000
set_option maxHeartbeats 4000000
set_option exponentiation.threshold 10000
/-! QF: Number.read, number, made -/
namespace DL
open PySem PySem.Spec L2 DM
open TL (tl numL)
theorem isi_str {K : PySem.W.Frag} {ca : Str → Addr} {x : Str} : fIsi K ca [.str x, .ty "str"] = some (.bl true) := by
  show (PySem.W.kitOne K (.type "str") (.type "str")).map D.bl = _
  unfold PySem.W.kitOne
  rw [if_pos (by simp)] <;> rfl
theorem joinL_len (S : List Nat) : ∀ (l : List (List Nat)), (TL.joinL S l).length ≤ (l.map (·.length)).sum + l.length * S.length
  | [] => Nat.zero_le _
  | [a] => by
    show a.length ≤ _
    simp
  | a :: b :: r => by
    show (a ++ (S ++ TL.joinL S (b :: r))).length ≤ _
    have ih := joinL_len S (b :: r)
    rw [List.length_append, List.length_append, List.map_cons, List.sum_cons, List.length_cons (a := a), Nat.succ_mul]
    omega
theorem len_text {R : Nat} {w : List (Nat × Nat)} (hw : WLR R w) : (textOf w).length ≤ 600000 := by
  by_cases h : w = []
  · subst h
    exact Nat.le_of_ble_eq_true rfl
  · rw [TL.len_tl, tl_text h]
    have a := joinL_len [42] (w.map fun p => tl (factText p))
    have b := sum_le (l := (w.map fun p => tl (factText p)).map (·.length)) (k := 130) fun x hx => by
      obtain ⟨y, hy, rfl⟩ := List.mem_map.mp hx
      obtain ⟨p, hp, rfl⟩ := List.mem_map.mp hy
      rw [← TL.len_tl]
      exact len_fact (hw.wf.ok p hp).1.hi (hw.sm p hp)
    have c := hw.ln
    rw [List.length_map, List.length_map] at b
    rw [List.length_map, show ([42] : List Nat).length = 1 from rfl] at a
    omega
theorem star_free (p : Nat × Nat) : 42 ∉ tl (factText p) := fun h => by
  rw [tl_fact] at h
  have hf : ∀ n, 42 ∉ numL n := fun n => TL.numL_free (.inl (by decide))
  split at h
  · rcases List.mem_append.mp h with h | h
    · exact hf _ h
    · rcases List.mem_cons.mp h with h | h
      · omega
      · exact hf _ h
  · exact hf _ h
theorem split_text {w : List (Nat × Nat)} (h : w ≠ []) : Txt.split (textOf w) ("*" : Str) = w.map factText := by
  unfold textOf
  rw [if_neg h, TL.split_join (s := 42) (S := []) rfl (by decide +kernel) (by simpa using h)]
  intro q hq
  obtain ⟨p, _, rfl⟩ := List.mem_map.mp hq
  exact star_free p
theorem text_ne {w : List (Nat × Nat)} (hw : ∀ p ∈ w, 2 ≤ p.1) (h : w ≠ []) : textOf w ≠ ("1" : Str) := fun e => by
  have e1 := split_text h
  rw [e] at e1
  have e2 : Txt.split ("1" : Str) ("*" : Str) = [("1" : Str)] := by
    have := split_text (w := []) 
    exact TL.split_join (y := ("*" : Str)) (s := 42) (S := []) rfl (by decide +kernel) (parts := [("1" : Str)]) (by simp) (fun p hp => by
      rw [List.mem_singleton.mp hp]
      show 42 ∉ [49]
      decide)
  rw [e2] at e1
  cases w with
  | nil => exact h rfl
  | cons p w =>
    rw [List.map_cons] at e1
    injection e1 with e3 _
    have e4 : tl (factText p) = [49] := by rw [← e3] <;> rfl
    rw [tl_fact] at e4
    have h1 : numL 1 = [49] := TL.numL_lt (by decide)
    split at e4
    · have := congrArg List.length e4
      rw [List.length_append, List.length_cons] at this
      have h2 : 0 < (numL p.1).length := List.length_pos_iff.mpr (TL.numL_ne _)
      simp at this
      omega
    · rw [← h1] at e4
      have := TL.numL_inj e4
      have := hw p List.mem_cons_self
      omega
def pairPy (p : Nat × Nat) : PyData := .tuple [.int p.1, .int p.2]
theorem toPy_pairs : ∀ (w : List (Nat × Nat)), toPyL (w.map pairD) = some (w.map pairPy)
  | [] => rfl
  | p :: w => by
    show (match toPy (pairD p), toPyL (w.map pairD) with
      | some x, some xs => some (x :: xs)
      | _, _ => none) = _
    rw [toPy_pairs w] <;> rfl
theorem lay_pairs : ∀ (w : List (Nat × Nat)), PyData.canLayAll0 (w.map pairPy) = true ∧ PyData.depthAll (w.map pairPy) ≤ 1
  | [] => ⟨rfl, by rw [List.map_nil, PyData.depthAll]; omega⟩
  | p :: w => by
    obtain ⟨a, b⟩ := lay_pairs w
    have d1 : (pairPy p).depth = 1 := by simp [pairPy, PyData.depth, PyData.depthAll]
    refine ⟨?_, ?_⟩
    · show (PyData.canLay0 (pairPy p) && PyData.canLayAll0 (w.map pairPy)) = true
      rw [a]
      simp [pairPy, PyData.canLay0, PyData.canLayAll0]
    · rw [List.map_cons, PyData.depthAll, d1]
      omega
theorem shp_pairs (w : List (Nat × Nat)) : SeqAt.shaped (.list (w.map pairPy)) = true := by
  obtain ⟨a, b⟩ := lay_pairs w
  unfold SeqAt.shaped
  rw [PyData.depth, PyData.canLay0, a]
  simp
  omega
theorem fIn_non (w : List (Nat × Nat)) : fIn .non (.lst (w.map pairD)) = some (.bl false) := by
  unfold fIn inD
  have e1 : toPy (.lst (w.map pairD)) = some (.list (w.map pairPy)) := by
    show (toPyL _).map PyData.list = _
    rw [toPy_pairs] <;> rfl
  show (match toPy .non, toPy (.lst (w.map pairD)) with
    | some x, some (.list ys) => if SeqAt.shaped x = true ∧ SeqAt.shaped (.list ys) = true then some (ys.any fun z => PyData.eqv z x) else none
    | _, _ => none).map D.bl = _
  rw [e1]
  show (if SeqAt.shaped PyData.none = true ∧ SeqAt.shaped (.list (w.map pairPy)) = true then some ((w.map pairPy).any fun z => PyData.eqv z .none) else none).map D.bl = _
  rw [if_pos ⟨by simp [SeqAt.shaped, PyData.canLay0, PyData.depth], shp_pairs w⟩]
  have : ((w.map pairPy).any fun z => PyData.eqv z .none) = false := by
    rw [List.any_eq_false]
    intro z hz
    obtain ⟨p, _, rfl⟩ := List.mem_map.mp hz
    simp [pairPy, PyData.eqv]
  rw [this] <;> rfl
theorem fEq_tup0 (w : List (Nat × Nat)) : fEq (.tup (w.map pairD)) (.tup []) = some (.bl w.isEmpty) := by
  obtain ⟨a, b⟩ := lay_pairs w
  have s1 : SeqAt.shaped (.tuple (w.map pairPy)) = true := by
    unfold SeqAt.shaped
    rw [PyData.depth, PyData.canLay0, a]
    simp
    omega
  have s2 : SeqAt.shaped (.tuple []) = true := by
    unfold SeqAt.shaped
    rw [PyData.depth, PyData.depthAll, PyData.canLay0] <;> rfl
  rw [fEq_of (x := .tuple (w.map pairPy)) (y := .tuple []) (by show (toPyL _).map PyData.tuple = _; rw [toPy_pairs] <;> rfl) rfl s1 s2]
  cases w with
  | nil => rw [List.map_nil, PyData.eqv, PyData.eqvAll] <;> rfl
  | cons x xs => rw [List.map_cons, PyData.eqv, PyData.eqvAll] <;> rfl
theorem okS_one : okS ("1" : Str) := fun d hd => by
  have hd' : d ∈ [49] := hd
  rw [List.mem_singleton.mp hd']
  decide
theorem does_Number_read {K : PySem.W.Frag} {ca : Str → Addr} : Does 4 (rd_Number_read K ca) sp_Number_read := by
  rintro ds Q ⟨w, rfl, ⟨R, hw⟩, hQ⟩
  have hl := len_text hw
  refine ⟨_, _, rfl, isi_str, _, _, rfl, rfl, _, _, _, rfl, rfl, fEq_str (okS_text w) okS_one, _, rfl, ?_⟩
  by_cases h : w = []
  · subst h
    exact ⟨rfl, Nat.zero_le _, star_le rfl, lawR, [], rfl, wf_nil, hQ⟩
  · rw [decide_eq_false (text_ne (fun p hp => (hw.wf.ok p hp).1.lo) h)]
    refine ⟨⟨_, rfl⟩, _, _, rfl, rfl, rfl, by rw [sizeLine_eq]; omega, ?_⟩
    rw [split_text h, List.map_map]
    refine ⟨_, rfl, le_line (by rw [List.length_map]; have := hw.ln; omega), ?_⟩
    show lcL _ [3] _ _ _ _ _ [] [.sh (.cls "Number"), .sh (.str (textOf w)), .un, .un]
    refine lcL_map (f := fun p => some (pairD p)) trivial (fun p hp K1 hK => ?_) ?_
    · exact ⟨p, rfl, (hw.wf.ok p hp).1.lo, (hw.wf.ok p hp).1.hi, (hw.wf.ok p hp).2, hw.sm p hp, hK⟩
    · have e1 : ([] ++ w.filterMap fun p => some (pairD p)) = w.map pairD := by rw [List.nil_append, fm_some]
      rw [e1]
      refine ⟨_, _, _, rfl, rfl, fIn_non w, _, rfl, rfl, _, _, rfl, rfl, Nat.zero_le _, ?_, R, w, rfl, hw.wf, hQ⟩
      rw [List.drop_zero, List.length_map]
      exact le_line (by have := hw.ln; omega)
theorem fLen_tup {xs : List D} : fLen [.tup xs] = some (.int xs.length) := rfl
theorem num_at {Q : D → Prop} {R : Nat} {w : List (Nat × Nat)} (hw : WLR R w) (hQ : Q (num w)) : sp_Number (w.map pairD) (fun d => Q d) DX0 :=
  ⟨Nat.zero_le _, by rw [List.drop_zero, List.length_map]; exact le_line (by have := hw.ln; omega), R, w, rfl, hw.wf, hQ⟩
theorem does_law_number : Does 2 rd_law_number sp_law_number := by
  rintro ds Q ⟨w, rfl, ⟨R, hw⟩, hQ⟩
  have rd : ∀ {D' : DEnds}, D'.rt = Q → dRet (dCMeth "Number" sp_Number_read (aCons (dApp sp_law_text (aCons (dVar 1) aNil)) aNil)) D' [.sh .src, .sh (.tup (w.map pairD))] := by
    intro D' e
    refine ⟨w, rfl, ⟨R, hw⟩, w, rfl, ⟨R, hw⟩, ?_⟩
    rw [e]
    exact hQ
  refine ⟨_, _, rfl, fLen_tup, _, _, _, rfl, rfl, rfl, _, rfl, ?_⟩
  by_cases h4 : (4 : Int) < ((w.map pairD).length : Int)
  · rw [decide_eq_true h4]
    exact rd rfl
  · rw [decide_eq_false h4]
    refine ⟨3, rfl, by decide, small_8000 (by decide), fun r hr => ⟨_, _, _, rfl, rfl, fEq_int _ _, _, rfl, ?_⟩⟩
    by_cases hr0 : ((r : Int) == 0) = true
    · rw [hr0]
      exact rd rfl
    · rw [Bool.eq_false_iff.mpr hr0]
      rw [List.length_map] at h4
      match w, hw, hQ, h4 with
      | [], hw, hQ, _ =>
        refine ⟨_, _, rfl, fLen_tup, _, _, _, rfl, rfl, rfl, _, rfl, ?_⟩
        exact ⟨len_line rfl, _, _, _, rfl, rfl, fEq_tup0 [], _, rfl, num_at hw hQ⟩
      | [p], hw, hQ, _ =>
        refine ⟨_, _, rfl, fLen_tup, _, _, _, rfl, rfl, rfl, _, rfl, ?_⟩
        exact ⟨len_line rfl, _, _, _, rfl, rfl, fEq_tup0 [p], _, rfl, _, _, _, rfl, rfl, rfl, num_at hw hQ⟩
      | [p, q], hw, hQ, _ =>
        refine ⟨_, _, rfl, fLen_tup, _, _, _, rfl, rfl, rfl, _, rfl, ?_⟩
        refine ⟨_, _, rfl, fLen_tup, _, _, _, rfl, rfl, fEq_int _ _, _, rfl, ?_⟩
        exact ⟨_, _, _, rfl, rfl, rfl, _, _, _, rfl, rfl, rfl, num_at hw hQ⟩
      | [p, q, s], hw, hQ, _ =>
        refine ⟨_, _, rfl, fLen_tup, _, _, _, rfl, rfl, rfl, _, rfl, ?_⟩
        refine ⟨_, _, rfl, fLen_tup, _, _, _, rfl, rfl, fEq_int _ _, _, rfl, ?_⟩
        refine ⟨_, _, rfl, fLen_tup, _, _, _, rfl, rfl, fEq_int _ _, _, rfl, ?_⟩
        exact ⟨_, _, _, rfl, rfl, rfl, _, _, _, rfl, rfl, rfl, _, _, _, rfl, rfl, rfl, num_at hw hQ⟩
      | [p, q, s, t], hw, hQ, _ =>
        refine ⟨_, _, rfl, fLen_tup, _, _, _, rfl, rfl, rfl, _, rfl, ?_⟩
        refine ⟨_, _, rfl, fLen_tup, _, _, _, rfl, rfl, fEq_int _ _, _, rfl, ?_⟩
        refine ⟨_, _, rfl, fLen_tup, _, _, _, rfl, rfl, fEq_int _ _, _, rfl, ?_⟩
        exact ⟨_, _, _, rfl, rfl, rfl, _, _, _, rfl, rfl, rfl, _, _, _, rfl, rfl, rfl, _, _, _, rfl, rfl, rfl, num_at hw hQ⟩
      | _ :: _ :: _ :: _ :: _ :: _, _, _, h => exact absurd h (by simp; omega)
theorem does_law_made : Does 3 rd_law_made sp_law_made := by
  rintro ds Q ⟨ps, es, rfl, h1, h2, h3, hQ⟩
  exact ⟨ps, es, rfl, h1, h2, h3, fun w hw hv => ⟨w, rfl, ⟨_, hw⟩, hQ w hw hv⟩⟩
end DL
set_option Elab.async false
set_option linter.all false
set_option maxRecDepth 100000
set_option maxHeartbeats 4000000
set_option exponentiation.threshold 10000
/-! QG: a drawn writing -/
namespace DL
open PySem PySem.Spec L2 DM
/-- two rows, side by side -/
def F2 {α β : Type} (P : α → β → Prop) : List α → List β → Prop
  | [], [] => True
  | a :: as, b :: bs => P a b ∧ F2 P as bs
  | _, _ => False
theorem F2.len {α β : Type} {P : α → β → Prop} : ∀ {as : List α} {bs : List β}, F2 P as bs → bs.length = as.length
  | [], [], _ => rfl
  | a :: as, b :: bs, h => by rw [List.length_cons, List.length_cons, F2.len h.2]
  | [], _ :: _, h => h.elim
  | _ :: _, [], h => h.elim
theorem lcL_mapR {α β : Type} {C : DEnv → Prop} {vs : List Nat} {g : TDG} {tt : TDT} {te : TD} {e : DEnv} {gD : α → D} {hD : β → D} {P : α → β → Prop} (hC : C e) : ∀ {w : List α} {acc : List D} {Q : List D → DEnv → Prop},
    (∀ p ∈ w, ∀ K1 : Option D → DEnv → Prop, (∀ r, P p r → K1 (some (hD r)) e) → g (gD p) e fun e1 => tt e1 fun b e2 => if b = true then te e2 fun y e3 => K1 (some y) (wipeE e3 vs) else K1 none (wipeE e2 vs)) →
    (∀ rs, F2 P w rs → Q (acc ++ rs.map hD) e) → lcL C vs g tt te Q (w.map gD) acc e
  | [], acc, Q, _, hQ => ⟨hC, by simpa using hQ [] trivial⟩
  | p :: w, acc, Q, ht, hQ => ⟨hC, ht p List.mem_cons_self (fun o e' => match o with
      | some y => lcL C vs g tt te Q (w.map gD) (acc ++ [y]) e'
      | none => lcL C vs g tt te Q (w.map gD) acc e') fun r hr =>
        lcL_mapR hC (fun q hq => ht q (List.mem_cons_of_mem _ hq)) fun rs hrs => by simpa using hQ (r :: rs) ⟨hr, hrs⟩⟩
theorem fMin2 (a b : Nat) : fMinB [.int a, .int b] = some (.int ((min a b : Nat) : Int)) := by
  show some (D.int (if (b : Int) < (a : Int) then (b : Int) else (a : Int))) = _
  congr 2
  split <;> omega
theorem fMax2 (a b : Nat) : fMaxB [.int a, .int b] = some (.int ((max a b : Nat) : Int)) := by
  show some (D.int (if (b : Int) > (a : Int) then (b : Int) else (a : Int))) = _
  congr 2
  split <;> omega
theorem minL_nat : ∀ {ns : List Nat}, ns ≠ [] → ∃ m : Nat, minL (ns.map fun n : Nat => (n : Int)) = some (m : Int) ∧ m ∈ ns ∧ ∀ n ∈ ns, m ≤ n
  | [], h => absurd rfl h
  | n :: ns, _ => by
    obtain ⟨h1, h2, h3⟩ := foldl_min (ns.map fun n : Nat => (n : Int)) (n : Int)
    have h0 : 0 ≤ (ns.map fun n : Nat => (n : Int)).foldl min (n : Int) := by
      rcases h1 with h1 | h1
      · rw [h1]
        omega
      · obtain ⟨m, _, e⟩ := List.mem_map.mp h1
        rw [← e]
        omega
    refine ⟨((ns.map fun n : Nat => (n : Int)).foldl min (n : Int)).toNat, ?_, ?_, ?_⟩
    · show some ((ns.map fun n : Nat => (n : Int)).foldl min (n : Int)) = _
      congr 1
      omega
    · rcases h1 with h1 | h1
      · rw [h1]
        have : (n : Int).toNat = n := by omega
        rw [this]
        exact List.mem_cons_self
      · obtain ⟨m, hm, e⟩ := List.mem_map.mp h1
        rw [← e]
        have : (m : Int).toNat = m := by omega
        rw [this]
        exact List.mem_cons_of_mem _ hm
    · intro k hk
      rcases List.mem_cons.mp hk with e | hk
      · subst e
        omega
      · have := h3 (k : Int) (List.mem_map.mpr ⟨k, hk, rfl⟩)
        omega
theorem fMin_list {ns : List Nat} (h : ns ≠ []) : ∃ m : Nat, fMinB [.lst (intsD ns)] = some (.int (m : Int)) ∧ m ∈ ns ∧ ∀ n ∈ ns, m ≤ n := by
  obtain ⟨m, h1, h2, h3⟩ := minL_nat h
  refine ⟨m, ?_, h2, h3⟩
  show (intsOf (intsD ns)).bind (fun ns => (minL ns).map D.int) = _
  rw [intsOf_nat]
  show (minL _).map D.int = _
  rw [h1] <;> rfl
theorem fMul_w {a b : Nat} (ha : a < 2 ^ 4000) (hb : b < 2 ^ 4000) : fMul (.int a) (.int b) = some (.int ((a * b : Nat) : Int)) := by
  have e1 : ((a * b : Nat) : Int) = (a : Int) * (b : Int) := by simp
  rw [e1]
  refine if_pos (.inl ?_)
  show (a : Int).natAbs.log2 + (b : Int).natAbs.log2 < 1000000
  rw [Int.natAbs_natCast, Int.natAbs_natCast]
  have := log2_lt ha (by decide)
  have := log2_lt hb (by decide)
  omega
theorem primes_ok : ∀ p ∈ lawPrimes, 2 ≤ p ∧ p < 2 ^ 34 ∧ p ∣ lawR := by decide +kernel
theorem LP.ok {ps : List Nat} (h : LP ps) : ∀ p ∈ ps, 2 ≤ p ∧ p < 2 ^ 34 ∧ p ∣ lawR := fun p hp => primes_ok p (h.mem p hp)
theorem LP.len {ps : List Nat} (h : LP ps) : ps.length ≤ 14 := List.Nodup.length_le_of_subset h.nd fun p hp => h.mem p hp
theorem pow_dvd {a b : Nat} (h : a ∣ b) (k : Nat) : a ^ k ∣ b ^ k := by
  obtain ⟨c, rfl⟩ := h
  rw [Nat.mul_pow]
  exact Nat.dvd_mul_right _ _
theorem pp_supp {R : Nat} : ∀ {ps ss : List Nat}, (∀ p ∈ ps, p ∣ R) → pp ps ss ∣ R ^ ss.sum
  | [], ss, _ => Nat.one_dvd _
  | _ :: _, [], _ => Nat.one_dvd _
  | p :: ps, s :: ss, h => by
    show p ^ s * pp ps ss ∣ R ^ (s :: ss).sum
    rw [List.sum_cons, Nat.pow_add]
    exact Nat.mul_dvd_mul (pow_dvd (h p List.mem_cons_self) s) (pp_supp fun q hq => h q (List.mem_cons_of_mem _ hq))
/-- what stands in the list of least quotients -/
def mostOf : List Nat → List Nat → List Nat
  | l :: ls, s :: ss => if 0 < s then l / s :: mostOf ls ss else mostOf ls ss
  | _, _ => []
theorem most_le {m : Nat} : ∀ {ls ss : List Nat}, F2 (fun l s => s ≤ 2 ∧ s ≤ l) ls ss → (∀ q ∈ mostOf ls ss, m ≤ q) → F2 (fun l s => m * s ≤ l) ls ss
  | [], [], _, _ => trivial
  | l :: ls, s :: ss, ⟨h1, h2⟩, h => by
    have e : mostOf (l :: ls) (s :: ss) = if 0 < s then l / s :: mostOf ls ss else mostOf ls ss := rfl
    rw [e] at h
    by_cases hs : 0 < s
    · rw [if_pos hs] at h
      refine ⟨?_, most_le h2 fun q hq => h q (List.mem_cons_of_mem _ hq)⟩
      have h3 := h _ List.mem_cons_self
      exact Nat.le_trans (Nat.mul_le_mul_right s h3) (Nat.div_mul_le_self l s)
    · rw [if_neg hs] at h
      refine ⟨?_, most_le h2 h⟩
      have : s = 0 := by omega
      subst this
      show m * 0 ≤ l
      omega
  | [], _ :: _, h, _ => h.elim
  | _ :: _, [], h, _ => h.elim
theorem most_pos : ∀ {ls ss : List Nat}, F2 (fun l s => s ≤ 2 ∧ s ≤ l) ls ss → ∀ q ∈ mostOf ls ss, 0 < q ∧ ∃ l ∈ ls, q ≤ l
  | [], [], _, q, hq => nomatch hq
  | l :: ls, s :: ss, ⟨h1, h2⟩, q, hq => by
    have e : mostOf (l :: ls) (s :: ss) = if 0 < s then l / s :: mostOf ls ss else mostOf ls ss := rfl
    rw [e] at hq
    have rest : q ∈ mostOf ls ss → 0 < q ∧ ∃ l' ∈ l :: ls, q ≤ l' := fun hq => by
      obtain ⟨a, l', b, c⟩ := most_pos h2 q hq
      exact ⟨a, l', List.mem_cons_of_mem _ b, c⟩
    by_cases hs : 0 < s
    · rw [if_pos hs] at hq
      rcases List.mem_cons.mp hq with hq | hq
      · rw [hq]
        exact ⟨Nat.div_pos h1.2 hs, l, List.mem_cons_self, Nat.div_le_self _ _⟩
      · exact rest hq
    · rw [if_neg hs] at hq
      exact rest hq
  | [], _ :: _, h, _, _ => h.elim
  | _ :: _, [], h, _, _ => h.elim
theorem most_base : ∀ {ps ls ss : List Nat}, (∀ p ∈ ps, 2 ≤ p) → ls.length = ps.length → ss.length = ps.length → mostOf ls ss ≠ [] → 2 ≤ pp ps ss
  | [], ls, ss, _, h1, h2, h => by
    have e1 : ls = [] := List.eq_nil_of_length_eq_zero h1
    subst e1
    exact absurd rfl h
  | p :: ps, l :: ls, s :: ss, hp, h1, h2, h => by
    have e : mostOf (l :: ls) (s :: ss) = if 0 < s then l / s :: mostOf ls ss else mostOf ls ss := rfl
    rw [e] at h
    have hpp : 0 < pp ps ss := pp_pos fun q hq => Nat.lt_of_lt_of_le (by decide) (hp q (List.mem_cons_of_mem _ hq))
    have hp2 := hp p List.mem_cons_self
    show 2 ≤ p ^ s * pp ps ss
    by_cases hs : 0 < s
    · have h3 : 2 ≤ p ^ s := by
        have := Nat.pow_le_pow_right (n := p) (by omega) hs
        rw [Nat.pow_one] at this
        omega
      exact Nat.le_trans h3 (Nat.le_mul_of_pos_right _ hpp)
    · rw [if_neg hs] at h
      have h4 := most_base (fun q hq => hp q (List.mem_cons_of_mem _ hq)) (Nat.succ.inj h1) (Nat.succ.inj h2) h
      have h5 : 0 < p ^ s := Nat.pow_pos (by omega)
      exact Nat.le_trans h4 (Nat.le_mul_of_pos_left _ h5)
  | _ :: _, [], _, _, h, _, _ => nomatch h
  | _ :: _, _ :: _, [], _, _, h, _ => nomatch h
/-- what is left behind a step -/
theorem left_step {m : Nat} : ∀ {ps ls ss : List Nat}, ls.length = ps.length → F2 (fun l s => m * s ≤ l) ls ss → pp ps (List.zipWith (fun l s => l - m * s) ls ss) * pp ps ss ^ m = pp ps ls
  | [], ls, ss, h, _ => by
    have e1 : ∀ es, pp [] es = 1 := fun es => by cases es <;> rfl
    rw [e1, e1, e1, Nat.one_pow]
  | p :: ps, l :: ls, s :: ss, h, ⟨h1, h2⟩ => by
    show p ^ (l - m * s) * pp ps (List.zipWith (fun l s => l - m * s) ls ss) * (p ^ s * pp ps ss) ^ m = p ^ l * pp ps ls
    rw [← left_step (Nat.succ.inj h) h2, Nat.mul_pow, ← Nat.pow_mul]
    have e : p ^ l = p ^ (l - m * s) * p ^ (s * m) := by
      rw [← Nat.pow_add, Nat.mul_comm s m, Nat.sub_add_cancel h1]
    rw [e]
    ac_rfl
  | _ :: _, [], _, h, _ => nomatch h
  | _ :: _, _ :: _, [], _, h => h.elim
theorem val_app : ∀ (a b : List (Nat × Nat)), val (a ++ b) = val a * val b
  | [], b => (Nat.one_mul _).symm
  | p :: a, b => by
    show p.1 ^ p.2 * val (a ++ b) = p.1 ^ p.2 * val a * val b
    rw [val_app a b, Nat.mul_assoc]
theorem val_perm {a b : List (Nat × Nat)} (h : a.Perm b) : val a = val b := by
  induction h with
  | nil => rfl
  | cons x _ ih =>
    show x.1 ^ x.2 * val _ = x.1 ^ x.2 * val _
    rw [ih]
  | swap x y l =>
    show y.1 ^ y.2 * (x.1 ^ x.2 * val l) = x.1 ^ x.2 * (y.1 ^ y.2 * val l)
    ac_rfl
  | trans _ _ h1 h2 => rw [h1, h2]
theorem fIx_pow {q s : Nat} (h : s ≤ 2) : fIx (.lst [.int 1, .int q, .int ((q * q : Nat) : Int)]) (.int s) = some (.int ((q ^ s : Nat) : Int)) := by
  have e : fIx (.lst [.int 1, .int q, .int ((q * q : Nat) : Int)]) (.int s) = some (([.int 1, .int q, .int ((q * q : Nat) : Int)] : List D)[s]'(by simp; omega)) := fIx_lst _
  rw [e]
  match s, h with
  | 0, _ => simp
  | 1, _ => simp
  | 2, _ => simp [Nat.pow_succ]
theorem fGt_nat (a b : Nat) : fGt (.int a) (.int b) = some (.bl (decide (b < a))) := by
  show some (D.bl (decide ((b : Int) < (a : Int)))) = _
  rw [int_lt]
theorem fFdiv_nat {a b : Nat} (h : 0 < b) (hb : b ≤ 10 ^ 20) : fFdiv (.int a) (.int b) = some (.int ((a / b : Nat) : Int)) := by
  rw [fFdiv_pos (by omega) (small_int hb)]
  congr 1
theorem getI {ns : List Nat} {i : Nat} (h : i < ns.length) : ∃ h2 : i < (intsD ns).length, (intsD ns)[i] = .int ns[i] := by
  refine ⟨by unfold intsD; rw [List.length_map]; exact h, ?_⟩
  unfold intsD
  rw [List.getElem_map]
theorem fIx_ints {ns : List Nat} {i : Nat} (h : i < ns.length) : fIx (.lst (intsD ns)) (.int i) = some (.int ns[i]) := by
  obtain ⟨h2, e⟩ := getI h
  rw [fIx_lst h2, e]
end DL
set_option Elab.async false
set_option linter.all false
set_option maxRecDepth 100000
set_option maxHeartbeats 4000000
set_option exponentiation.threshold 10000
/-! QH: a drawn writing: the loops -/
namespace DL
open PySem PySem.Spec L2 DM
def bodyIn : TDS := (dSeq (dAsg (dOp fMul (oSlot 7) (oVal (dOp fIx (oVal (dNew (fLst (aCons (dC (.int 1)) (aCons (dVar 10) (aCons (dOp fMul (oSlot 10) (oSlot 10)) aNil)))))) (oVal (dOp fIx (oSlot 6) (oSlot 9)))))) (gN 7)) (dIfS (dTest (dOp fGt (oVal (dOp fIx (oSlot 6) (oSlot 9))) (oVal (dC (.int 0))))) (dExpr (dMeth 8 fAppend (aCons (dOp fFdiv (oVal (dOp fIx (oSlot 3) (oSlot 9))) (oVal (dOp fIx (oSlot 6) (oSlot 9)))) aNil))) dNext))
theorem get_app {a b : List Nat} {x : Nat} {n : Nat} (h : a.length = n) : ∃ h2 : n < (a ++ x :: b).length, (a ++ x :: b)[n] = x := by
  subst h
  refine ⟨by simp, by simp⟩
theorem inner_loop {X0 X1 X2 X4 X5 X11 X12 X13 : Ent} {LS SS : List Nat} {F : DEnds} : ∀ (qs ls ss : List Nat) (n : Nat) (L0 S0 most : List Nat) (base : Nat) (t9 t10 : Ent), LS = L0 ++ ls → SS = S0 ++ ss → L0.length = n → S0.length = n → ls.length = qs.length → (∀ q ∈ qs, 2 ≤ q ∧ q < 2 ^ 34) → base < 2 ^ (70 * n + 1) → n + qs.length ≤ 14 → most.length ≤ n →
    F2 (fun l s => s ≤ 2 ∧ s ≤ l) ls ss → (∀ t9 t10, F.nx [X0, X1, X2, .sh (.lst (intsD LS)), X4, X5, .sh (.lst (intsD SS)), .sh (.int (base * pp qs ss : Nat)), .ol (intsD (most ++ mostOf ls ss)), t9, t10, X11, X12, X13]) →
    forL (fun _ => True) (gTupD 2 (gConsD (gN 9) (gConsD (gN 10) gNilD))) bodyIn F (enumG n (intsD qs)) [X0, X1, X2, .sh (.lst (intsD LS)), X4, X5, .sh (.lst (intsD SS)), .sh (.int base), .ol (intsD most), t9, t10, X11, X12, X13]
  | [], ls, ss, n, L0, S0, most, base, t9, t10, e1, e2, h1, h2, hl, hq, hb, hn, hm, hf, hQ => by
    have e3 : ls = [] := List.eq_nil_of_length_eq_zero hl
    subst e3
    have e4 : ss = [] := List.eq_nil_of_length_eq_zero hf.len
    subst e4
    refine ⟨trivial, ?_⟩
    have := hQ t9 t10
    have e5 : base * pp [] [] = base := Nat.mul_one _
    have e6 : most ++ mostOf [] [] = most := List.append_nil _
    rw [e5, e6] at this
    exact this
  | q :: qs, l :: ls, s :: ss, n, L0, S0, most, base, t9, t10, e1, e2, h1, h2, hl, hq, hb, hn, hm, ⟨hs, hf⟩, hQ => by
    rw [List.length_cons] at hn
    obtain ⟨g1, g2⟩ := get_app (a := L0) (b := ls) (x := l) h1
    obtain ⟨g3, g4⟩ := get_app (a := S0) (b := ss) (x := s) h2
    rw [← e1] at g1
    rw [← e2] at g3
    have g2' : LS[n] = l := by simp only [e1]; exact g2
    have g4' : SS[n] = s := by simp only [e2]; exact g4
    have fL : fIx (.lst (intsD LS)) (.int n) = some (.int l) := by rw [fIx_ints g1, g2']
    have fS : fIx (.lst (intsD SS)) (.int n) = some (.int s) := by rw [fIx_ints g3, g4']
    obtain ⟨q1, q2⟩ := hq q List.mem_cons_self
    have hqs : q ^ s < 2 ^ 70 := by
      have a1 : q ^ s ≤ q ^ 2 := Nat.pow_le_pow_right (by omega) hs.1
      have a2 : q ^ 2 ≤ (2 ^ 34) ^ 2 := Nat.pow_le_pow_left (by omega) 2
      have a3 : (2 ^ 34) ^ 2 < 2 ^ 70 := by decide
      omega
    have hb4 : base < 2 ^ 4000 := Nat.lt_of_lt_of_le hb (Nat.pow_le_pow_right (by decide) (by omega))
    have hb2 : base * q ^ s < 2 ^ (70 * (n + 1) + 1) := by
      have : 2 ^ (70 * (n + 1) + 1) = 2 ^ (70 * n + 1) * 2 ^ 70 := by
        rw [← Nat.pow_add]
        congr 1
      rw [this]
      exact Nat.mul_lt_mul_of_lt_of_lt hb hqs
    have hqq : fMul (.int q) (.int q) = some (.int ((q * q : Nat) : Int)) := fMul_w (Nat.lt_of_lt_of_le q2 (Nat.pow_le_pow_right (by decide) (by decide))) (Nat.lt_of_lt_of_le q2 (Nat.pow_le_pow_right (by decide) (by decide)))
    have hbm : fMul (.int base) (.int ((q ^ s : Nat) : Int)) = some (.int ((base * q ^ s : Nat) : Int)) := fMul_w hb4 (Nat.lt_of_lt_of_le hqs (Nat.pow_le_pow_right (by decide) (by decide)))
    have e6 : base * pp (q :: qs) (s :: ss) = base * q ^ s * pp qs ss := by
      show base * (q ^ s * pp qs ss) = _
      rw [Nat.mul_assoc]
    refine ⟨trivial, rfl, rfl, ?_⟩
    refine ⟨_, _, _, rfl, rfl, hqq, len_line rfl, _, _, _, rfl, rfl, fS, _, _, _, rfl, rfl, fIx_pow hs.1, _, _, _, rfl, rfl, hbm, ?_⟩
    refine ⟨_, _, _, rfl, rfl, fS, _, _, _, rfl, rfl, fGt_nat s 0, _, rfl, ?_⟩
    by_cases h0 : 0 < s
    · rw [decide_eq_true h0]
      have e7 : intsD most ++ [D.int ((l / s : Nat) : Int)] = intsD (most ++ [l / s]) := by
        unfold intsD
        rw [List.map_append] <;> rfl
      have e8 : most ++ mostOf (l :: ls) (s :: ss) = (most ++ [l / s]) ++ mostOf ls ss := by
        show most ++ (if 0 < s then l / s :: mostOf ls ss else mostOf ls ss) = _
        rw [if_pos h0]
        simp
      refine ⟨⟨_, rfl⟩, _, _, _, rfl, rfl, fL, _, _, _, rfl, rfl, fS, _, _, _, rfl, rfl, fFdiv_nat h0 (by omega), _, _, _, rfl, fApp (by unfold intsD; rw [List.length_map]; omega), ?_⟩
      rw [e7]
      refine inner_loop qs ls ss (n + 1) (L0 ++ [l]) (S0 ++ [s]) _ _ _ _ (by rw [e1]; simp) (by rw [e2]; simp) (by simp [h1]) (by simp [h2]) (Nat.succ.inj hl) (fun x hx => hq x (List.mem_cons_of_mem _ hx)) hb2 (by omega) (by simp; omega) hf fun t9 t10 => ?_
      have := hQ t9 t10
      rw [e6, e8] at this
      exact this
    · rw [decide_eq_false h0]
      have e8 : most ++ mostOf (l :: ls) (s :: ss) = most ++ mostOf ls ss := by
        show most ++ (if 0 < s then l / s :: mostOf ls ss else mostOf ls ss) = _
        rw [if_neg h0]
      refine inner_loop qs ls ss (n + 1) (L0 ++ [l]) (S0 ++ [s]) _ _ _ _ (by rw [e1]; simp) (by rw [e2]; simp) (by simp [h1]) (by simp [h2]) (Nat.succ.inj hl) (fun x hx => hq x (List.mem_cons_of_mem _ hx)) hb2 (by omega) (by omega) hf fun t9 t10 => ?_
      have := hQ t9 t10
      rw [e6, e8] at this
      exact this
  | _ :: _, [], _, _, _, _, _, _, _, _, _, _, _, _, h, _, _, _, _, _, _ => nomatch h
  | _ :: _, _ :: _, [], _, _, _, _, _, _, _, _, _, _, _, _, _, _, _, _, h, _ => h.elim
def bodyOut : TDS := (dSeq (dAsg (dNew (fLc (iSeqD (dVar 3)) [12] (gN 12) dYes (dCB fMinB (aoCons (oVal (dApp sp_law_draw (aCons (dVar 0) (aCons (dC (.int 3)) aNil)))) (aoCons (oSlot 12) aoNil))))) (gN 6)) (dSeq (dOwnR (dC (.int 1)) (fLst aNil) 7 8) (dSeq (dFor (iEnumD (aCons (dVar 1) aNil)) (gTupD 2 (gConsD (gN 9) (gConsD (gN 10) gNilD))) bodyIn) (dIfS (dAnd (dTest (dOp fNe (oSlot 8) (oVal (dNew (fLst aNil))))) (dTest (dOp fLe (oSlot 7) (oVal (dOp fPow (oVal (dC (.int 10))) (oVal (dC (.int 20)))))))) (dSeq (dAsg (dOp fIx (oVal (dNew (fLst (aCons (dC (.int 1)) (aCons (dCB fMinB (aoCons (oSlot 8) aoNil)) (aCons (dOp fAdd (oVal (dC (.int 1))) (oVal (dApp sp_law_draw (aCons (dVar 0) (aCons (dCB fMinB (aoCons (oSlot 8) aoNil)) aNil))))) aNil)))))) (oVal (dApp sp_law_draw (aCons (dVar 0) (aCons (dC (.int 3)) aNil))))) (gN 11)) (dSeq (dAsg (dNew (fLc (iZipD (aCons (dVar 3) (aCons (dVar 6) aNil))) [12, 13] (gTupD 2 (gConsD (gN 12) (gConsD (gN 13) gNilD))) dYes (dOp fSub (oSlot 12) (oVal (dOp fMul (oSlot 11) (oSlot 13)))))) (gN 3)) (dExpr (dMeth 4 fAppend (aCons (dTup (aCons (dVar 7) (aCons (dVar 11) aNil))) aNil))))) dNext))))
theorem small_4000 {n : Nat} (h : n ≤ 10 ^ 100) : n < 2 ^ 4000 := Nat.lt_of_le_of_lt h (Nat.lt_of_lt_of_le (show 10 ^ 100 < 2 ^ 400 by decide) (Nat.pow_le_pow_right (by decide) (by decide)))
theorem fPow_1020 : fPow (.int 10) (.int 20) = some (.int ((10 ^ 20 : Nat) : Int)) := by
  have h : CPow 10 20 := ⟨by decide, by decide, by decide⟩
  show (if CPow 10 20 then some (D.int ((10 : Int) ^ (20 : Int).toNat)) else none) = _
  rw [if_pos h]
  rfl
theorem fLe_nat (a b : Nat) : fLe (.int a) (.int b) = some (.bl (decide (a ≤ b))) := by
  show some (D.bl (decide ((a : Int) ≤ (b : Int)))) = _
  congr 2
  rw [decide_eq_decide]
  omega
theorem fSub_nat {a b : Nat} (h : b ≤ a) : fSub (.int a) (.int b) = some (.int ((a - b : Nat) : Int)) := by
  show some (D.int ((a : Int) - (b : Int))) = _
  congr 2
  omega
theorem zip_ints : ∀ (a b : List Nat), zipOf (intsD a) (intsD b) = (a.zip b).map pairD
  | [], b => by simp [zipOf, intsD]
  | a :: as, [] => by simp [zipOf, intsD]
  | a :: as, b :: bs => by
    have := zip_ints as bs
    show D.tup [.int a, .int b] :: zipOf (intsD as) (intsD bs) = pairD (a, b) :: (as.zip bs).map pairD
    rw [this]
    rfl
theorem f2_zip {P : Nat → Nat → Prop} : ∀ {as bs : List Nat}, F2 P as bs → ∀ p ∈ as.zip bs, P p.1 p.2
  | [], [], _, p, hp => nomatch hp
  | a :: as, b :: bs, h, p, hp => by
    rw [List.zip_cons_cons] at hp
    rcases List.mem_cons.mp hp with e | hp
    · rw [e]
      exact h.1
    · exact f2_zip h.2 p hp
  | [], _ :: _, h, _, _ => h.elim
  | _ :: _, [], h, _, _ => h.elim
/-- what is found so far -/
structure Fd (found : List (Nat × Nat)) : Prop where
  ok : ∀ p ∈ found, OkB lawR p.1 ∧ 1 ≤ p.2
  sm : ∀ p ∈ found, p.2 ≤ 10 ^ 100
theorem Fd.app {a b : List (Nat × Nat)} (h : Fd a) (h2 : Fd b) : Fd (a ++ b) :=
  ⟨fun p hp => (List.mem_append.mp hp).elim (h.ok p) (h2.ok p), fun p hp => (List.mem_append.mp hp).elim (h.sm p) (h2.sm p)⟩
theorem outer_loop {ps es : List Nat} (hps : LP ps) {Q : DEnv → Prop} {rt : D → Prop} (hQ : ∀ (left : List Nat) (found : List (Nat × Nat)) t5 t6 t7 t8 t9 t10 t11 t12 t13, left.length = ps.length → (∀ l ∈ left, l ≤ 10 ^ 100) → Fd found → found.length ≤ 3 → pp ps left * val found = pp ps es →
      Q [.sh .src, .sh (.lst (intsD ps)), .sh (.lst (intsD es)), .sh (.lst (intsD left)), .ol (found.map pairD), t5, t6, t7, t8, t9, t10, t11, t12, t13]) :
    ∀ (rs : List D) (left : List Nat) (found : List (Nat × Nat)) (t5 t6 t7 t8 t9 t10 t11 t12 t13 : Ent), found.length + rs.length ≤ 3 → left.length = ps.length → (∀ l ∈ left, l ≤ 10 ^ 100) → Fd found → pp ps left * val found = pp ps es →
    forL (fun _ => True) (gN 5) bodyOut { nx := Q, rt := rt } rs [.sh .src, .sh (.lst (intsD ps)), .sh (.lst (intsD es)), .sh (.lst (intsD left)), .ol (found.map pairD), t5, t6, t7, t8, t9, t10, t11, t12, t13]
  | [], left, found, t5, t6, t7, t8, t9, t10, t11, t12, t13, h1, h2, h3, h4, h5 => ⟨trivial, hQ _ _ _ _ _ _ _ _ _ _ _ h2 h3 h4 (by simpa using h1) h5⟩
  | r :: rs, left, found, t5, t6, t7, t8, t9, t10, t11, t12, t13, h1, h2, h3, h4, h5 => by
    rw [List.length_cons] at h1
    have hl14 := hps.len
    refine ⟨trivial, _, rfl, le_line (by unfold intsD; rw [List.length_map]; omega), ?_⟩
    show lcL _ [12] _ _ _ _ (left.map fun n : Nat => D.int n) [] [.sh .src, .sh (.lst (intsD ps)), .sh (.lst (intsD es)), .sh (.lst (intsD left)), .ol (found.map pairD), .sh r, t6, t7, t8, t9, t10, t11, .un, t13]
    refine lcL_mapR (hD := fun n : Nat => D.int n) (P := fun l s : Nat => s ≤ 2 ∧ s ≤ l) trivial (fun l hl K1 hK => ?_) fun ss hss => ?_
    · refine ⟨3, rfl, by decide, small_8000 (by decide), fun k hk => ⟨_, _, rfl, fMin2 k l, hK _ ⟨by omega, by omega⟩⟩⟩
    · have hsl : ss.length = ps.length := by rw [hss.len, h2]
      rw [List.nil_append]
      refine ⟨len_line rfl, Nat.le_of_ble_eq_true rfl, Nat.le_of_ble_eq_true rfl, by decide, _, _, rfl, rfl, ?_⟩
      rw [enumOf_eq]
      refine inner_loop (LS := left) (SS := ss) ps left ss 0 [] [] [] 1 _ _ rfl rfl rfl rfl h2 (fun q hq => ⟨(hps.ok q hq).1, (hps.ok q hq).2.1⟩) (by decide) (by omega) (Nat.le_refl _) hss fun t9 t10 => ?_
      rw [Nat.one_mul, List.nil_append]
      refine ⟨len_line rfl, _, _, _, rfl, rfl, fNe_ints _ [], _, rfl, ?_⟩
      by_cases hm : mostOf left ss = []
      · rw [decide_eq_true hm]
        exact outer_loop hps hQ rs _ _ _ _ _ _ _ _ _ _ _ (by omega) h2 h3 h4 h5
      · rw [decide_eq_false hm]
        refine ⟨_, _, _, rfl, rfl, fPow_1020, _, _, _, rfl, rfl, fLe_nat _ _, _, rfl, ?_⟩
        by_cases hb : pp ps ss ≤ 10 ^ 20
        · rw [decide_eq_true hb]
          obtain ⟨m, f1, f2, f3⟩ := fMin_list hm
          obtain ⟨m1, l0, hl0, m2⟩ := most_pos hss m f2
          have m3 : m ≤ 10 ^ 100 := Nat.le_trans m2 (h3 l0 hl0)
          refine ⟨_, _, rfl, f1, _, _, rfl, f1, m, rfl, m1, small_8000 m3, fun k hk => ⟨_, _, _, rfl, rfl, fAdd_nat 1 k, len_line rfl, 3, rfl, by decide, small_8000 (by decide), fun j hj => ?_⟩⟩
          have hj2 : j < [1, m, 1 + k].length := hj
          obtain ⟨x, hx, hx1, hxm⟩ : ∃ x : Nat, [1, m, 1 + k][j] = x ∧ 1 ≤ x ∧ x ≤ m := by
            refine ⟨_, rfl, ?_, ?_⟩ <;> match j, hj with
              | 0, _ => simp; try omega
              | 1, _ => simp; try omega
              | 2, _ => simp; try omega
          have e1 : fIx (.lst (intsD [1, m, 1 + k])) (.int j) = some (.int x) := by rw [fIx_ints hj2, hx]
          refine ⟨_, _, _, rfl, rfl, e1, ?_⟩
          have hle : F2 (fun l s => x * s ≤ l) left ss := most_le hss fun q hq => Nat.le_trans hxm (f3 q hq)
          refine ⟨_, _, _, _, rfl, rfl, rfl, ?_⟩
          rw [zip_ints]
          refine ⟨le_line (by rw [List.length_map, List.length_zip]; omega), ?_⟩
          show lcL _ [12, 13] _ _ _ _ ((left.zip ss).map pairD) [] [.sh .src, .sh (.lst (intsD ps)), .sh (.lst (intsD es)), .sh (.lst (intsD left)), .ol (found.map pairD), .sh r, .sh (.lst (intsD ss)), .sh (.int (pp ps ss : Nat)), .ol (intsD (mostOf left ss)), t9, t10, .sh (.int x), .un, .un]
          refine lcL_pairs (f := fun p => some (.int ((p.1 - x * p.2 : Nat) : Int))) trivial (fun p hp K1 hK => ?_) ?_
          · have hp1 := f2_zip hss p hp
            have hp2 := f2_zip hle p hp
            refine ⟨_, _, _, rfl, rfl, fMul_w (small_4000 (Nat.le_trans hxm m3)) (small_4000 (Nat.le_trans hp1.1 (by decide))), _, _, _, rfl, rfl, fSub_nat hp2, hK⟩
          · have e2 : ([] ++ (left.zip ss).filterMap fun p => some (D.int ((p.1 - x * p.2 : Nat) : Int))) = intsD (List.zipWith (fun l s => l - x * s) left ss) := by
              rw [List.nil_append, fm_some]
              unfold intsD
              rw [List.map_zip_eq_zipWith, List.map_zipWith] <;> rfl
            rw [e2]
            have hb2 : OkB lawR (pp ps ss) := ⟨most_base (fun p hp => (hps.ok p hp).1) h2 hsl hm, hb, ⟨_, pp_supp fun p hp => (hps.ok p hp).2.2⟩⟩
            refine ⟨⟨_, rfl⟩, len_line rfl, _, _, _, rfl, fApp (by rw [List.length_map]; omega), ?_⟩
            have e3 : found.map pairD ++ [D.tup [.int (pp ps ss : Nat), .int x]] = (found ++ [(pp ps ss, x)]).map pairD := by
              rw [List.map_append] <;> rfl
            rw [e3]
            refine outer_loop hps hQ rs _ _ _ _ _ _ _ _ _ _ _ (by rw [List.length_append]; simp; omega) (by rw [List.length_zipWith]; omega) ?_ (h4.app ⟨fun p hp => ?_, fun p hp => ?_⟩) ?_
            · intro l hl
              obtain ⟨p, hp, rfl⟩ := List.mem_map.mp (show l ∈ (left.zip ss).map (fun p => p.1 - x * p.2) by rw [List.map_zip_eq_zipWith]; exact hl)
              exact Nat.le_trans (Nat.sub_le _ _) (h3 _ (List.of_mem_zip hp).1)
            · rw [List.mem_singleton.mp hp]
              exact ⟨hb2, hx1⟩
            · rw [List.mem_singleton.mp hp]
              exact Nat.le_trans hxm m3
            · rw [val_app, ← h5, ← left_step h2 hle]
              show _ * (val found * ((pp ps ss) ^ x * 1)) = _
              rw [Nat.mul_one]
              ac_rfl
        · rw [decide_eq_false hb]
          exact outer_loop hps hQ rs _ _ _ _ _ _ _ _ _ _ _ (by omega) h2 h3 h4 h5
theorem perm_map_inv {α β : Type} {f : α → β} : ∀ {l : List α} {ys : List β}, ys.Perm (l.map f) → ∃ w : List α, w.Perm l ∧ ys = w.map f := by
  intro l ys h
  generalize hm : l.map f = m at h
  induction h generalizing l with
  | nil =>
    have e : l = [] := by simpa using hm
    subst e
    exact ⟨[], List.Perm.refl _, rfl⟩
  | cons x _ ih =>
    cases l with
    | nil => cases hm
    | cons a l =>
      rw [List.map_cons] at hm
      injection hm with h1 h2
      obtain ⟨w, hw, e⟩ := ih h2
      exact ⟨a :: w, hw.cons a, by rw [e, List.map_cons, h1]⟩
  | swap x y t =>
    match l, hm with
    | a :: b :: l, hm =>
      rw [List.map_cons, List.map_cons] at hm
      injection hm with h1 h2
      injection h2 with h2 h3
      exact ⟨b :: a :: l, List.Perm.swap _ _ _, by rw [List.map_cons, List.map_cons, h1, h2, h3]⟩
  | trans _ _ ih1 ih2 =>
    obtain ⟨w, hw, e⟩ := ih2 hm
    obtain ⟨w2, hw2, e2⟩ := ih1 e.symm
    exact ⟨w2, hw2.trans hw, e2⟩
theorem lawR_base {p : Nat} (h : 2 ≤ p ∧ p < 2 ^ 34 ∧ p ∣ lawR) : OkB lawR p := ⟨h.1, by have := h.2.1; omega, ⟨1, by rw [Nat.pow_one]; exact h.2.2⟩⟩
/-- what is left over, factor by factor -/
def restOf (ps ls : List Nat) : List (Nat × Nat) := (ps.zip ls).filter fun p => decide (0 < p.2)
theorem val_rest : ∀ (ps ls : List Nat), ls.length = ps.length → val (restOf ps ls) = pp ps ls
  | [], ls, h => by
    have e : ls = [] := List.eq_nil_of_length_eq_zero h
    subst e
    rfl
  | p :: ps, l :: ls, h => by
    have ih := val_rest ps ls (Nat.succ.inj h)
    unfold restOf at ih ⊢
    rw [List.zip_cons_cons, List.filter_cons]
    by_cases hl : 0 < l
    · rw [if_pos (decide_eq_true hl)]
      show p ^ l * val _ = p ^ l * pp ps ls
      rw [ih]
    · rw [if_neg (by simpa using hl), ih]
      have : l = 0 := by omega
      subst this
      show _ = p ^ 0 * pp ps ls
      rw [Nat.pow_zero, Nat.one_mul]
  | _ :: _, [], h => nomatch h
theorem does_law_writing : Does 14 rd_law_writing sp_law_writing := by
  rintro ds Q ⟨ps, es, rfl, hps, hl, he, hQ⟩
  have hl14 := hps.len
  refine ⟨_, _, rfl, rfl, len_line rfl, Nat.le_of_ble_eq_true rfl, Nat.le_of_ble_eq_true rfl, by decide, 4, rfl, by decide, small_8000 (by decide), fun k hk => ?_⟩
  refine ⟨k, rfl, by omega, by omega, ?_⟩
  refine outer_loop (es := es) hps (fun left found t5 t6 t7 t8 t9 t10 t11 t12 t13 h1 h2 h3 h4 h5 => ?_) _ es [] _ _ _ _ _ _ _ _ _ (by simp; omega) hl he ⟨fun p hp => (nomatch hp), fun p hp => (nomatch hp)⟩ (Nat.mul_one _)
  refine ⟨_, _, _, _, rfl, rfl, rfl, ?_⟩
  rw [zip_ints]
  refine ⟨le_line (by rw [List.length_map, List.length_zip]; omega), ?_⟩
  show lcL _ [10, 12] _ _ _ _ ((ps.zip left).map pairD) [] [.sh .src, .sh (.lst (intsD ps)), .sh (.lst (intsD es)), .sh (.lst (intsD left)), .ol (found.map pairD), t5, t6, t7, t8, t9, .un, t11, .un, t13]
  refine lcL_pairs (f := fun p => if decide (0 < p.2) = true then some (pairD p) else none) trivial (fun p hp K1 hK => ?_) ?_
  · refine ⟨_, _, _, rfl, rfl, fGt_nat p.2 0, _, rfl, ?_⟩
    by_cases h : 0 < p.2
    · rw [decide_eq_true h] at hK ⊢
      exact ⟨len_line rfl, hK⟩
    · rw [decide_eq_false h] at hK ⊢
      exact hK
  · have e1 : ([] ++ (ps.zip left).filterMap fun p => if decide (0 < p.2) = true then some (pairD p) else none) = (restOf ps left).map pairD := by
      rw [List.nil_append]
      unfold restOf
      generalize ps.zip left = z
      induction z with
      | nil => rfl
      | cons p z ih =>
        rw [List.filterMap_cons, List.filter_cons]
        by_cases h : 0 < p.2
        · rw [decide_eq_true h]
          simp only [if_true]
          rw [ih] <;> rfl
        · rw [decide_eq_false h]
          simp only [Bool.false_eq_true, if_false]
          exact ih
    rw [e1]
    have rl : (restOf ps left).length ≤ 14 := by
      have := List.length_filter_le (fun p : Nat × Nat => decide (0 < p.2)) (ps.zip left)
      rw [List.length_zip] at this
      unfold restOf
      omega
    have rf : Fd (restOf ps left) := by
      refine ⟨fun p hp => ?_, fun p hp => ?_⟩ <;> obtain ⟨hp1, hp2⟩ := List.mem_filter.mp hp
      · exact ⟨lawR_base (hps.ok _ (List.of_mem_zip hp1).1), of_decide_eq_true hp2⟩
      · exact h2 _ (List.of_mem_zip hp1).2
    have e2 : found.map pairD ++ (restOf ps left).map pairD = (found ++ restOf ps left).map pairD := List.map_append.symm
    refine ⟨_, _, rfl, rfl, le_line (by rw [List.length_map, List.length_map]; omega), Nat.le_of_ble_eq_true rfl, ?_⟩
    rw [e2]
    refine ⟨_, rfl, by rw [List.length_map, List.length_append]; omega, fun ys hy => ?_⟩
    obtain ⟨w, hw, rfl⟩ := perm_map_inv hy
    have hf := h3.app rf
    refine ⟨_, _, rfl, rfl, hQ w ⟨⟨fun p hp => hf.ok p (hw.mem_iff.mp hp), by rw [hw.length_eq, List.length_append]; omega⟩, fun p hp => hf.sm p (hw.mem_iff.mp hp), by rw [hw.length_eq, List.length_append]; omega⟩ ?_⟩
    rw [val_perm hw, val_app, val_rest ps left h1, Nat.mul_comm, h5]
end DL
set_option Elab.async false
set_option linter.all false
set_option maxRecDepth 100000
set_option maxHeartbeats 4000000
set_option exponentiation.threshold 10000
/-! SC: promises, readings of further number defs -/
namespace DL
open PySem PySem.Spec L2 DM
/-- u the part of x made of what y has, v the rest -/
structure Parted (x y u v : Nat) : Prop where
  mul : u * v = x
  co : Nat.Coprime v y
  su : ∃ k, u ∣ y ^ k
def sp_parted : DSp := fun ds Q _ => ∃ (R : Nat) (w1 w2 : List (Nat × Nat)), ds = [num w1, num w2] ∧ ROk R ∧ WF R w1 ∧ WF R w2 ∧ ∀ u v, WF R u → WF R v → Parted (val w1) (val w2) (val u) (val v) → Q (.tup [num u, num v])
def sp_exponent_in : DSp := fun ds Q _ => ∃ (R : Nat) (w : List (Nat × Nat)) (b : Nat), ds = [num w, .int b] ∧ ROk R ∧ WF R w ∧ OkB R b ∧ ∀ m : Nat, b ^ m ∣ val w → ¬ b ^ (m + 1) ∣ val w → Q (.int m)
def sp_str : DSp := fun ds Q _ => ∃ w, ds = [num w] ∧ WX w ∧ Q (.str (textOf w))
def reprOf (w : List (Nat × Nat)) : Str := (("Number(" : Str) ++ textOf w) ++ (")" : Str)
def sp_repr : DSp := fun ds Q _ => ∃ w, ds = [num w] ∧ WX w ∧ Q (.str (reprOf w))
/-- parted: slots number, other, base, pairs, inner, mine, yours, outer -/
def rd_parted : TDS := (dSeq (dExpr (dApp sp_check_number (aCons (dVar 0) aNil))) (dSeq (dExpr (dApp sp_check_number (aCons (dVar 1) aNil))) (dSeq (dAsg (dApp sp_compared (aCons (dVar 0) (aCons (dVar 1) aNil))) (gTupD 2 (gConsD (gN 2) (gConsD (gN 3) gNilD)))) (dSeq (dAsg (dApp sp_number_with (aCons (dVar 2) (aCons (dNew (fLc (iSeqD (dVar 3)) [5, 6] (gTupD 2 (gConsD (gN 5) (gConsD (gN 6) gNilD))) dYes (dIf (dTest (dOp fGt (oSlot 6) (oVal (dC (.int 0))))) (dVar 5) (dC (.int 0))))) aNil))) (gN 4)) (dSeq (dAsg (dApp sp_number_with (aCons (dVar 2) (aCons (dNew (fLc (iSeqD (dVar 3)) [5, 6] (gTupD 2 (gConsD (gN 5) (gConsD (gN 6) gNilD))) dYes (dIf (dTest (dOp fEq (oSlot 6) (oVal (dC (.int 0))))) (dVar 5) (dC (.int 0))))) aNil))) (gN 7)) (dRet (dTup (aCons (dVar 4) (aCons (dVar 7) aNil)))))))))
/-- exponent_in: slots number, base, items, pairs, item, exponent -/
def rd_exponent_in : TDS := (dSeq (dExpr (dApp sp_check_number (aCons (dVar 0) aNil))) (dSeq (dIfS (dNot (dTru (oVal (dApp sp_is_integer (aCons (dVar 1) (aCons (dC (.int 2)) (aCons (dC (.int 100000000000000000000)) aNil))))))) dNever dNext) (dSeq (dAsg (dApp sp_common_base (aCons (dFld "Number" "powers" (dVar 0)) (aCons (dTup (aCons (dTup (aCons (dVar 1) (aCons (dC (.int 1)) aNil))) aNil)) aNil))) (gN 2)) (dSeq (dAsg (dNew (fListZip (aCons (dVar 2) (aCons (dApp sp_exponents_over (aCons (dFld "Number" "powers" (dVar 0)) (aCons (dVar 2) aNil))) aNil)))) (gN 3)) (dRet (dCB fMinB (aoCons (oVal (dNew (fLc (iSeqD (dVar 3)) [4, 5] (gTupD 2 (gConsD (gN 4) (gConsD (gN 5) gNilD))) (dTest (dOp fEq (oVal (dOp fMod (oSlot 1) (oSlot 4))) (oVal (dC (.int 0))))) (dOp fFdiv (oSlot 5) (oVal (dApp sp_times_in (aCons (dVar 1) (aCons (dVar 4) aNil)))))))) aoNil)))))))
/-- Number.__str__: slots self, words, base, exponent -/
def rd_Number_str : TDS := (dSeq (dAsg (dNew (fLc (iSeqD (dFld "Number" "powers" (dVar 0))) [2, 3] (gTupD 2 (gConsD (gN 2) (gConsD (gN 3) gNilD))) dYes (dIf (dTest (dOp fEq (oSlot 3) (oVal (dC (.int 1))))) (dCB fStrB (aoCons (oSlot 2) aoNil)) (dJs [(dUn fFmt (oSlot 2)), (dC (.str ("^" : Str))), (dUn fFmt (oSlot 3))] Str.empty)))) (gN 1)) (dSeq (dIfS (dTest (dOp fEq (oSlot 1) (oVal (dNew (fLst aNil))))) (dRet (dC (.str ("1" : Str)))) dNext) (dRet (dJoin (oVal (dC (.str ("*" : Str)))) (oSlot 1)))))
/-- Number.__repr__: slots self -/
def rd_Number_repr : TDS := (dRet (dJs [(dC (.str ("Number(" : Str))), (dTxtO "Number" sp_str (oSlot 0)), (dC (.str (")" : Str)))] Str.empty))
def ofW (v : Nat) : List (Nat × Nat) := if 1 < v then [(v, 1)] else []
def sp_Number_of : DSp := fun ds Q _ => ∃ v : Nat, ds = [.cls "Number", .int v] ∧ 1 ≤ v ∧ v ≤ 10 ^ 20 ∧ Q (num (ofW v))
/-- Number.of: slots cls, value -/
def rd_Number_of : TDS := (dSeq (dIfS (dNot (dTru (oVal (dApp sp_is_integer (aCons (dVar 1) (aCons (dC (.int 1)) (aCons (dC (.int 100000000000000000000)) aNil))))))) dNever dNext) (dRet (dIf (dTest (dOp fGt (oSlot 1) (oVal (dC (.int 1))))) (dIs 0 "Number" (dApp sp_Number (aCons (dTup (aCons (dVar 1) (aCons (dC (.int 1)) aNil))) aNil))) (dIs 0 "Number" (dApp0 sp_Number)))))
end DL
set_option Elab.async false
set_option linter.all false
set_option maxRecDepth 100000
set_option maxHeartbeats 4000000
set_option exponentiation.threshold 10000
/-! QI: parted, exponent_in -/
namespace DL
open PySem PySem.Spec L2 DM
/-! ### parts -/
def inn (e f : Nat) : Nat := if 0 < f then e else 0
def out (e f : Nat) : Nat := if 0 < f then 0 else e
theorem inn_out {bs es fs : List Nat} (h1 : es.length = bs.length) (h2 : fs.length = bs.length) : pp bs (List.zipWith inn es fs) * pp bs (List.zipWith out es fs) = pp bs es := by
  rw [← pp_add (zw_len h1 h2) (zw_len h1 h2)]
  congr 1
  apply List.ext_getElem
  · simp
    omega
  · intro i g1 g2
    simp [inn, out]
    split <;> simp
theorem out_co : ∀ {bs es fs : List Nat}, PC bs → Nat.Coprime (pp bs (List.zipWith out es fs)) (pp bs fs)
  | [], _, _, _ => Nat.coprime_one_left _
  | _ :: _, [], fs, _ => Nat.coprime_one_left _
  | _ :: _, _ :: _, [], _ => Nat.coprime_one_left _
  | b :: bs, e :: es, f :: fs, h => by
    show Nat.Coprime (b ^ out e f * pp bs (List.zipWith out es fs)) (b ^ f * pp bs fs)
    have ih := out_co (es := es) (fs := fs) h.tail
    have c1 : Nat.Coprime (b ^ out e f) (pp bs fs) := h.coP _
    have c2 : Nat.Coprime (pp bs (List.zipWith out es fs)) (b ^ f) := Nat.Coprime.symm (h.coP f)
    have c3 : Nat.Coprime (b ^ out e f) (b ^ f) := by
      unfold out
      by_cases hf : 0 < f
      · rw [if_pos hf, Nat.pow_zero]
        exact Nat.coprime_one_left _
      · have : f = 0 := by omega
        rw [this, Nat.pow_zero]
        exact Nat.coprime_one_right _
    exact Nat.Coprime.mul_left (Nat.Coprime.mul_right c3 c1) (Nat.Coprime.mul_right c2 ih)
theorem inn_su (k : Nat) : ∀ {bs es fs : List Nat}, (∀ e ∈ es, e ≤ k) → pp bs (List.zipWith inn es fs) ∣ pp bs fs ^ k
  | [], _, _, _ => Nat.one_dvd _
  | _ :: _, [], fs, _ => Nat.one_dvd _
  | _ :: _, _ :: _, [], _ => Nat.one_dvd _
  | b :: bs, e :: es, f :: fs, h => by
    show b ^ inn e f * pp bs (List.zipWith inn es fs) ∣ (b ^ f * pp bs fs) ^ k
    have ih := inn_su k (bs := bs) (es := es) (fs := fs) fun x hx => h x (List.mem_cons_of_mem _ hx)
    rw [Nat.mul_pow, ← Nat.pow_mul]
    refine Nat.mul_dvd_mul (Nat.pow_dvd_pow b ?_) ih
    have he := h e List.mem_cons_self
    unfold inn
    split
    · exact Nat.le_trans he (Nat.le_mul_of_pos_left _ (by omega))
    · exact Nat.zero_le _
theorem le_sum : ∀ {es : List Nat}, ∀ e ∈ es, e ≤ es.sum
  | [], e, h => nomatch h
  | a :: es, e, h => by
    rw [List.sum_cons]
    rcases List.mem_cons.mp h with rfl | h
    · omega
    · have := le_sum e h
      omega
theorem parted_pp {bs es fs : List Nat} (h : PC bs) (h1 : es.length = bs.length) (h2 : fs.length = bs.length) : Parted (pp bs es) (pp bs fs) (pp bs (List.zipWith inn es fs)) (pp bs (List.zipWith out es fs)) :=
  ⟨inn_out h1 h2, out_co h, _, inn_su es.sum le_sum⟩
theorem Parted.dvd {x y u v u' v' : Nat} (a : Parted x y u v) (b : Parted x y u' v') : u ∣ u' := by
  obtain ⟨k, hk⟩ := a.su
  have c : Nat.Coprime u v' := Nat.Coprime.coprime_dvd_left hk (Nat.Coprime.pow_left k (Nat.Coprime.symm b.co))
  exact Nat.Coprime.dvd_of_dvd_mul_right c ⟨v, by rw [b.mul, a.mul]⟩
theorem Parted.uniq {x y u v u' v' : Nat} (hx : 0 < x) (a : Parted x y u v) (b : Parted x y u' v') : u = u' ∧ v = v' := by
  have e : u = u' := Nat.dvd_antisymm (a.dvd b) (b.dvd a)
  refine ⟨e, ?_⟩
  subst e
  have h1 := a.mul
  rw [← b.mul] at h1
  have hu : 0 < u := by
    rcases Nat.eq_zero_or_pos u with z | z
    · have := a.mul
      rw [z, Nat.zero_mul] at this
      omega
    · exact z
  exact Nat.eq_of_mul_eq_mul_left hu h1
theorem does_parted : Does 8 rd_parted sp_parted := by
  rintro ds Q ⟨R, w1, w2, rfl, hR, h1, h2, hQ⟩
  refine ⟨w1, rfl, w2, rfl, R, w1, w2, rfl, hR, h1, h2, fun bs es fs hb l1 l2 e1 e2 => ?_⟩
  refine ⟨rfl, rfl, _, rfl, zipE_len l1 l2 (hb.len hR), ?_⟩
  show lcL _ [5, 6] _ _ _ _ ((es.zip fs).map pairD) [] [.sh (num w1), .sh (num w2), .sh (.tup (intsD bs)), .sh (.lst (zipE es fs)), .un, .un, .un, .un]
  refine lcL_pairs (f := fun p => some (.int (inn p.1 p.2 : Nat))) trivial (fun p hp K1 hK => ?_) ?_
  · refine ⟨_, _, _, rfl, rfl, rfl, _, rfl, ?_⟩
    rw [int_keep]
    unfold inn at hK
    by_cases h : 0 < p.2
    · rw [decide_eq_true h]
      rw [if_pos h] at hK
      exact hK
    · rw [decide_eq_false h]
      rw [if_neg h] at hK
      exact hK
  · rw [fm_int (g := inn)]
    refine ⟨R, bs, _, rfl, hR, hb, zw_len l1 l2, fun u hu hvu => ?_⟩
    refine ⟨_, rfl, zipE_len l1 l2 (hb.len hR), ?_⟩
    show lcL _ [5, 6] _ _ _ _ ((es.zip fs).map pairD) [] [.sh (num w1), .sh (num w2), .sh (.tup (intsD bs)), .sh (.lst (zipE es fs)), .sh (num u), .un, .un, .un]
    refine lcL_pairs (f := fun p => some (.int (out p.1 p.2 : Nat))) trivial (fun p hp K1 hK => ?_) ?_
    · refine ⟨_, _, _, rfl, rfl, fEq_int _ _, _, rfl, ?_⟩
      unfold out at hK
      by_cases h : 0 < p.2
      · rw [show ((p.2 : Int) == 0) = false from by simp; omega]
        rw [if_pos h] at hK
        exact hK
      · rw [show ((p.2 : Int) == 0) = true from by simp; omega]
        rw [if_neg h] at hK
        exact hK
    · rw [fm_int (g := out)]
      refine ⟨R, bs, _, rfl, hR, hb, zw_len l1 l2, fun v hv hvv => ⟨len_line rfl, hQ u v hu hv ?_⟩⟩
      have := parted_pp hb.pc l1 l2
      rw [← hvu, ← hvv, e1, e2] at this
      exact this
/-! ### exponent_in -/
theorem fMod_nat {a b : Nat} (h : 0 < b) : fMod (.int a) (.int b) = some (.int ((a % b : Nat) : Int)) := by
  rw [fMod_pos (by omega)]
  congr 1
theorem fm_pick {t : Nat × Nat → Bool} {g : Nat × Nat → Nat} : ∀ (l : List (Nat × Nat)), (l.filterMap fun p => if t p = true then some (D.int (g p)) else none) = intsD ((l.filter t).map g)
  | [] => rfl
  | a :: l => by
    rw [List.filterMap_cons, List.filter_cons]
    by_cases h : t a = true
    · rw [if_pos h, if_pos h, List.map_cons]
      show D.int (g a) :: _ = D.int (g a) :: intsD _
      rw [fm_pick l] <;> rfl
    · rw [if_neg h, if_neg h]
      exact fm_pick l
theorem does_exponent_in : Does 6 rd_exponent_in sp_exponent_in := by
  rintro ds Q ⟨R, w, b, rfl, hR, hw, ho, hQ⟩
  have t1 : decide ((2 : Int) ≤ (b : Int) ∧ (b : Int) ≤ 100000000000000000000) = true := decide_eq_true ⟨by have := ho.lo; omega, by have := ho.hi; omega⟩
  have hw1 : WF R [(b, 1)] := ⟨fun p hp => by rw [List.mem_singleton.mp hp]; exact ⟨ho, Nat.le_refl 1⟩, by simp⟩
  refine ⟨w, rfl, .inr ⟨_, _, _, rfl, ?_⟩⟩
  rw [t1]
  refine ⟨_, _, rfl, rfl, _, _, _, rfl, rfl, len_line rfl, len_line rfl, Nat.zero_le _, len_line rfl, R, w, [(b, 1)], rfl, hR, hw, hw1, fun bs hb m1 m2 => ?_⟩
  refine ⟨_, _, _, rfl, rfl, R, w, bs, rfl, hR, hw, hb, m1, fun es l1 e1 => ?_⟩
  obtain ⟨ex, x1, x2⟩ := exps_ex hb m2
  have hbl := hb.len hR
  have k1 : ∀ c ∈ bs, ∃ m, b = c ^ ex c b * m ∧ ¬ c ∣ m ∧ 0 < m := x1 (b, 1) List.mem_cons_self
  have k2 : pp bs (bs.map fun c => ex c b) = b := by
    have : (bs.map fun c => ([(b, 1)].map fun p => p.2 * ex c p.1).sum) = bs.map fun c => ex c b := List.map_congr_left fun c _ => by simp
    rw [this] at x2
    rw [x2]
    show b ^ 1 * 1 = b
    rw [Nat.pow_one, Nat.mul_one]
  have klt : ∀ c ∈ bs, ex c b < 67 := fun c hc => by
    obtain ⟨m, a1, a2, a3⟩ := k1 c hc
    exact exp_le (hb.pc.gt c hc) a3 a1 ho.hi
  refine ⟨_, _, _, _, rfl, rfl, rfl, ?_⟩
  rw [zipOf_pairs]
  refine ⟨_, rfl, zipE_len rfl l1 hbl, ?_⟩
  show lcL _ [4, 5] _ _ _ _ ((bs.zip es).map pairD) [] [.sh (num w), .sh (.int b), .sh (.tup (intsD bs)), .sh (.lst (zipE bs es)), .un, .un]
  refine lcL_pairs (f := fun p => if decide (0 < ex p.1 b) = true then some (.int ((p.2 / ex p.1 b : Nat) : Int)) else none) trivial (fun p hp K1 hK => ?_) ?_
  · have hp1 : p.1 ∈ bs := (List.of_mem_zip hp).1
    have hc := hb.pc.gt p.1 hp1
    obtain ⟨m, a1, a2, a3⟩ := k1 p.1 hp1
    refine ⟨_, _, _, rfl, rfl, fMod_nat (by omega), _, _, _, rfl, rfl, fEq_int _ _, _, rfl, ?_⟩
    by_cases h : 0 < ex p.1 b
    · have d : b % p.1 = 0 := by
        apply Nat.mod_eq_zero_of_dvd
        rw [a1]
        exact Nat.dvd_trans ⟨p.1 ^ (ex p.1 b - 1), by rw [← Nat.pow_succ']; congr 1; omega⟩ (Nat.dvd_mul_right _ _)
      rw [d]
      rw [decide_eq_true h] at hK
      exact ⟨b, p.1, _, m, rfl, a1, a2, a3, hc, (hb.ok p.1 hp1).hi, _, _, _, rfl, rfl, fFdiv_nat h (by have := klt p.1 hp1; omega), hK⟩
    · have d : b % p.1 ≠ 0 := fun z => by
        have e0 : ex p.1 b = 0 := by omega
        rw [e0, Nat.pow_zero, Nat.one_mul] at a1
        exact a2 (by rw [← a1]; exact Nat.dvd_of_mod_eq_zero z)
      rw [show (((b % p.1 : Nat) : Int) == 0) = false from by simp; omega]
      rw [decide_eq_false h] at hK
      exact hK
  · rw [List.nil_append, fm_pick (t := fun p => decide (0 < ex p.1 b)) (g := fun p => p.2 / ex p.1 b)]
    have hne : ((bs.zip es).filter fun p => decide (0 < ex p.1 b)).map (fun p => p.2 / ex p.1 b) ≠ [] := fun z => by
      rw [List.map_eq_nil_iff, List.filter_eq_nil_iff] at z
      have e0 : (bs.map fun c => ex c b) = List.replicate bs.length 0 := by
        rw [List.eq_replicate_iff]
        refine ⟨List.length_map _, fun k hk => ?_⟩
        obtain ⟨c, hc, rfl⟩ := List.mem_map.mp hk
        obtain ⟨i, hi, rfl⟩ := List.getElem_of_mem hc
        have hz : i < (bs.zip es).length := by rw [List.length_zip]; omega
        have := z _ (List.getElem_mem hz)
        rw [List.getElem_zip] at this
        simpa using this
      rw [e0, pp_zeros] at k2
      have := ho.lo
      omega
    obtain ⟨m, f1, f2, f3⟩ := fMin_list hne
    refine ⟨_, _, rfl, f1, ?_⟩
    have key : ∀ n, b ^ n ∣ val w ↔ ∀ i (g1 : i < bs.length) (g2 : i < es.length), ex bs[i] b * n ≤ es[i] := fun n => by
      rw [← e1]
      conv => lhs; lhs; rw [← k2]
      rw [← pp_pow, pp_dvd hb.pc (by simp) l1]
      constructor
      · intro h i g1 g2
        have := h i (by simpa using g1) g2
        simpa using this
      · intro h i g1 g2
        have := h i (by simpa using g1) g2
        simpa using this
    refine hQ m ((key m).mpr fun i g1 g2 => ?_) fun hd => ?_
    · by_cases h : 0 < ex bs[i] b
      · have hz : i < (bs.zip es).length := by rw [List.length_zip]; omega
        have hm : (bs.zip es)[i] ∈ (bs.zip es).filter fun p => decide (0 < ex p.1 b) := List.mem_filter.mpr ⟨List.getElem_mem hz, by rw [List.getElem_zip]; exact decide_eq_true h⟩
        have := f3 _ (List.mem_map.mpr ⟨_, hm, rfl⟩)
        rw [List.getElem_zip] at this
        rw [Nat.mul_comm]
        exact (Nat.le_div_iff_mul_le h).mp this
      · have : ex bs[i] b = 0 := by omega
        rw [this, Nat.zero_mul]
        exact Nat.zero_le _
    · obtain ⟨p, hp, e⟩ := List.mem_map.mp f2
      obtain ⟨hp1, hp2⟩ := List.mem_filter.mp hp
      obtain ⟨i, hi, e2⟩ := List.getElem_of_mem hp1
      rw [List.length_zip] at hi
      rw [List.getElem_zip] at e2
      subst e2
      have h := (key (m + 1)).mp hd i (by omega) (by omega)
      rw [Nat.mul_comm] at h
      have h0 : 0 < ex bs[i] b := of_decide_eq_true hp2
      have := (Nat.le_div_iff_mul_le h0).mpr h
      have e : es[i] / ex bs[i] b = m := e
      omega
end DL
set_option Elab.async false
set_option linter.all false
set_option maxRecDepth 100000
set_option maxHeartbeats 4000000
set_option exponentiation.threshold 10000
/-! QJ: texts of numbers, _law_whole, _law_is -/
namespace DL
open PySem PySem.Spec L2 DM
theorem fFmt_nat {n : Nat} (h : n ≤ 10 ^ 101) : fFmt (.int n) = some (.str (strN n)) := by
  show (if (n : Int).natAbs.log2 < 1920 then some (D.str (strN n)) else none) = _
  rw [if_pos]
  rw [Int.natAbs_natCast]
  exact Nat.lt_of_lt_of_le (log2_lt (k := 340) (Nat.lt_of_le_of_lt h (by decide)) (by decide)) (by decide)
theorem str_e (x : Str) : Str.empty ++ x = x := by
  apply TL.ext_tl
  rw [TL.tl_append]
  rfl
theorem str_e2 (x : Str) : x ++ ("" : Str) = x := by
  apply TL.ext_tl
  rw [TL.tl_append]
  exact List.append_nil _
theorem str_as (x y z : Str) : x ++ y ++ z = x ++ (y ++ z) := by
  apply TL.ext_tl
  rw [TL.tl_append, TL.tl_append, TL.tl_append, TL.tl_append, List.append_assoc]
theorem str_len (x y : Str) : (x ++ y).length = x.length + y.length := by
  rw [TL.len_tl, TL.tl_append, List.length_append, ← TL.len_tl, ← TL.len_tl]
theorem fEq_strs0 {xs : List Str} (h : ∀ x ∈ xs, okS x) : fEq (.lst (xs.map D.str)) (.lst []) = some (.bl xs.isEmpty) := by
  have e := fNe_strs0 h
  rw [fEq_of (show toPy (.lst (xs.map D.str)) = some (.list (xs.map PyData.str)) from by show (toPyL _).map _ = _; rw [toPy_strs] <;> rfl) rfl (shp_strs h) shp_nil]
  rw [fNe_of (show toPy (.lst (xs.map D.str)) = some (.list (xs.map PyData.str)) from by show (toPyL _).map _ = _; rw [toPy_strs] <;> rfl) rfl (shp_strs h) shp_nil] at e
  simp only [Option.some.injEq, D.bl.injEq] at e ⊢
  have : ∀ a b : Bool, (!a) = (!b) → a = b := by decide
  exact this _ _ e
theorem does_Number_str : Does 4 rd_Number_str sp_str := by
  rintro ds Q ⟨w, rfl, ⟨R, hw⟩, hQ⟩
  refine ⟨_, _, _, rfl, rfl, _, rfl, le_line (by rw [List.length_map]; have := hw.ln; omega), ?_⟩
  show lcL _ [2, 3] _ _ _ _ (w.map pairD) [] [.sh (num w), .un, .un, .un]
  refine lcL_pairs (f := fun p => some (.str (factText p))) trivial (fun p hp K1 hK => ?_) ?_
  · have a0 := (hw.wf.ok p hp).2
    have a1 : p.1 ≤ 10 ^ 20 := (hw.wf.ok p hp).1.hi
    have a2 : p.2 ≤ 10 ^ 100 := hw.sm p hp
    have l1 := len_strN (n := p.1) (k := 21) (by decide) (Nat.lt_of_le_of_lt a1 (by decide))
    have l2 := len_strN (n := p.2) (k := 101) (by decide) (Nat.lt_of_le_of_lt a2 (by decide))
    refine ⟨_, _, _, rfl, rfl, fEq_int _ _, _, rfl, ?_⟩
    by_cases h : 1 < p.2
    · rw [show ((p.2 : Int) == 1) = false from by simp; omega]
      have e0 : factText p = Str.empty ++ strN p.1 ++ ("^" : Str) ++ strN p.2 := by
        unfold factText
        rw [if_pos h, str_e, str_as]
      have c1 : ("^" : Str).length = 1 := rfl
      refine ⟨_, _, rfl, fFmt_nat (Nat.le_trans a1 (by decide)), _, rfl, ?_, _, rfl, ?_, _, _, rfl, fFmt_nat (Nat.le_trans a2 (by decide)), _, rfl, ?_, ?_⟩
      · rw [str_e]
        exact le_line (by omega)
      · rw [str_e, str_len]
        exact le_line (by omega)
      · rw [str_e, str_len, str_len]
        exact le_line (by omega)
      · rw [e0] at hK
        exact hK
    · have e1 : p.2 = 1 := by omega
      rw [show ((p.2 : Int) == 1) = true from by simp; omega]
      have e0 : factText p = strN p.1 := by
        unfold factText
        rw [if_neg h, str_e2]
      refine ⟨_, _, rfl, fStr_nat (Nat.le_trans a1 (by decide)), ?_⟩
      rw [e0] at hK
      exact hK
  · have e1 : ([] ++ w.filterMap fun p => some (D.str (factText p))) = (w.map factText).map D.str := by
      rw [List.nil_append, fm_some, List.map_map] <;> rfl
    rw [e1]
    have hok : ∀ x ∈ w.map factText, okS x := fun x hx => by
      obtain ⟨p, _, rfl⟩ := List.mem_map.mp hx
      exact okS_fact p
    refine ⟨len_line rfl, _, _, _, rfl, rfl, fEq_strs0 hok, _, rfl, ?_⟩
    by_cases h : w = []
    · subst h
      exact hQ
    · have e2 : (w.map factText).isEmpty = false := by
        cases w with
        | nil => exact absurd rfl h
        | cons p w => rfl
      rw [e2]
      refine ⟨⟨_, rfl⟩, _, _, _, w.map factText, rfl, rfl, rfl, strsOf_map _, ?_, ?_⟩
      · have hs := sum_le (l := (w.map factText).map (·.length)) (k := 130) fun x hx => by
          obtain ⟨y, hy, rfl⟩ := List.mem_map.mp hx
          obtain ⟨p, hp, rfl⟩ := List.mem_map.mp hy
          exact len_fact (hw.wf.ok p hp).1.hi (hw.sm p hp)
        have := hw.ln
        have h1 : ("*" : Str).length = 1 := rfl
        rw [List.length_map, List.length_map] at hs
        rw [List.length_map, h1]
        omega
      · have e3 : textOf w = Txt.join ("*" : Str) (w.map factText) := by unfold textOf; rw [if_neg h]
        rw [e3] at hQ
        exact hQ
theorem does_Number_repr : Does 1 rd_Number_repr sp_repr := by
  rintro ds Q ⟨w, rfl, ⟨R, hw⟩, hQ⟩
  have hl := len_text hw
  have c1 : ("Number(" : Str).length = 7 := rfl
  have c2 : (")" : Str).length = 1 := rfl
  refine ⟨_, rfl, Nat.le_of_ble_eq_true rfl, _, _, rfl, w, rfl, ⟨R, hw⟩, _, rfl, _, rfl, ?_, _, rfl, ?_, ?_⟩
  · rw [str_e, str_len]
    exact le_line (by omega)
  · rw [str_e, str_len, str_len]
    exact le_line (by omega)
  · unfold reprOf at hQ
    have e : Str.empty ++ ("Number(" : Str) ++ textOf w ++ (")" : Str) = ("Number(" : Str) ++ textOf w ++ (")" : Str) := by rw [str_e]
    rw [e]
    exact hQ
end DL
set_option Elab.async false
set_option linter.all false
set_option maxRecDepth 100000
set_option maxHeartbeats 4000000
set_option exponentiation.threshold 10000
/-! SR: powers and roots of ints: promises, readings, plain laws -/
namespace DL
open PySem PySem.Spec L2 DM
def sp_powered : DSp := fun ds Q _ => ∃ v t : Nat, ds = [.int v, .int t] ∧ 1 ≤ v ∧ v < 2 ^ 70 ∧ t < 128 ∧ Q (.int ((v ^ t : Nat) : Int))
def sp_integer_root : DSp := fun ds Q _ => ∃ v t : Nat, ds = [.int v, .int t] ∧ 1 ≤ v ∧ v ≤ 10 ^ 20 ∧ 1 ≤ t ∧ t < 128 ∧ ∀ r : Nat, 1 ≤ r → r ^ t ≤ v → v < (r + 1) ^ t → Q (.int r)
/-- powered: slots value, times, found -/
def rd_powered : TDS := (dSeq (dAsg (dC (.int 1)) (gN 2)) (dSeq (dWhile (dTest (dOp fGt (oSlot 1) (oVal (dC (.int 0))))) (dSeq (dIfS (dTest (dOp fEq (oVal (dOp fMod (oSlot 1) (oVal (dC (.int 2))))) (oVal (dC (.int 1))))) (dAsg (dOp fMul (oSlot 2) (oSlot 0)) (gN 2)) dNext) (dPair (aCons (dOp fMul (oSlot 0) (oSlot 0)) (aCons (dOp fFdiv (oSlot 1) (oVal (dC (.int 2)))) aNil)) 0 1))) (dRet (dVar 2))))
/-- integer_root: slots value, times, low, high, middle -/
def rd_integer_root : TDS := (dSeq (dPair (aCons (dC (.int 1)) (aCons (dC (.int 2)) aNil)) 2 3) (dSeq (dWhile (dTest (dOp fLe (oVal (dApp sp_powered (aCons (dVar 3) (aCons (dVar 1) aNil)))) (oSlot 0))) (dAugM 3 (dC (.int 2)))) (dSeq (dWhile (dTest (dOp fLt (oSlot 2) (oSlot 3))) (dSeq (dAsg (dOp fFdiv (oVal (dOp fAdd (oVal (dOp fAdd (oSlot 2) (oSlot 3))) (oVal (dC (.int 1))))) (oVal (dC (.int 2)))) (gN 4)) (dIfS (dTest (dOp fLe (oVal (dApp sp_powered (aCons (dVar 4) (aCons (dVar 1) aNil)))) (oSlot 0))) (dAsg (dVar 4) (gN 2)) (dAsg (dOp fSub (oSlot 4) (oVal (dC (.int 1)))) (gN 3))))) (dRet (dVar 2)))))
theorem fMul_x {a b : Nat} (ha : a < 2 ^ 20000) (hb : b < 2 ^ 20000) : fMul (.int a) (.int b) = some (.int ((a * b : Nat) : Int)) := by
  have e1 : ((a * b : Nat) : Int) = (a : Int) * (b : Int) := by simp
  rw [e1]
  refine if_pos (.inl ?_)
  show (a : Int).natAbs.log2 + (b : Int).natAbs.log2 < 1000000
  rw [Int.natAbs_natCast, Int.natAbs_natCast]
  have := log2_lt ha (by decide)
  have := log2_lt hb (by decide)
  omega
theorem pow_lt_x {v k : Nat} (h1 : 1 ≤ v) (hv : v < 2 ^ 70) (hk : k ≤ 256) : v ^ k < 2 ^ 20000 := by
  have a : v ^ k ≤ (2 ^ 70) ^ k := Nat.pow_le_pow_left (Nat.le_of_lt hv) k
  have b : (2 ^ 70) ^ k ≤ (2 ^ 70) ^ 256 := Nat.pow_le_pow_right (by decide) hk
  have c : (2 ^ 70) ^ 256 < 2 ^ 20000 := by
    rw [← Nat.pow_mul]
    exact Nat.pow_lt_pow_right (by decide) (by decide)
  omega
theorem does_powered : Does 3 rd_powered sp_powered := by
  rintro ds Q ⟨v, t, rfl, h1, hv, ht, hQ⟩
  refine ⟨fun n e => ∃ (k x f : Nat), e = [.sh (.int ((v ^ k : Nat) : Int)), .sh (.int x), .sh (.int f)] ∧ k ≤ 256 ∧ (0 < x → k * x ≤ t) ∧ f * (v ^ k) ^ x = v ^ t ∧ n = x, ⟨t, 1, t, 1, by rw [Nat.pow_one] <;> rfl, by decide, fun _ => by omega, by rw [Nat.pow_one, Nat.one_mul], rfl⟩, ?_⟩
  rintro n _ ⟨k, x, f, rfl, hk, hx, hf, hn⟩
  refine ⟨_, _, _, rfl, rfl, fGt_nat x 0, _, rfl, ?_⟩
  by_cases h0 : 0 < x
  · rw [decide_eq_true h0]
    have hkx := hx h0
    have hk2 : k ≤ t := Nat.le_trans (Nat.le_mul_of_pos_right k h0) hkx
    have vk : 0 < v ^ k := Nat.pow_pos h1
    have hfl : f ≤ v ^ t := by
      rw [← hf]
      exact Nat.le_mul_of_pos_right f (Nat.pow_pos vk)
    have fb : f < 2 ^ 20000 := Nat.lt_of_le_of_lt hfl (pow_lt_x h1 hv (by omega))
    have vb : v ^ k < 2 ^ 20000 := pow_lt_x h1 hv hk
    refine ⟨_, _, _, rfl, rfl, fMod_nat (b := 2) (by decide), _, _, _, rfl, rfl, fEq_int _ _, _, rfl, ?_⟩
    have e2 : v ^ k * v ^ k = v ^ (2 * k) := by rw [← Nat.pow_add]; congr 1; omega
    have step : ∀ f2 : Nat, f2 * (v ^ (2 * k)) ^ (x / 2) = v ^ t → ∃ m', m' < n ∧ ∃ (k' x' f' : Nat), [Ent.sh (.int ((v ^ k * v ^ k : Nat) : Int)), .sh (.int ((x / 2 : Nat) : Int)), .sh (.int f2)] = [.sh (.int ((v ^ k' : Nat) : Int)), .sh (.int x'), .sh (.int f')] ∧ k' ≤ 256 ∧ (0 < x' → k' * x' ≤ t) ∧ f' * (v ^ k') ^ x' = v ^ t ∧ m' = x' := fun f2 h =>
      ⟨x / 2, by omega, 2 * k, x / 2, f2, by rw [e2], by omega, fun _ => by
        have : 2 * k * (x / 2) = k * (2 * (x / 2)) := by rw [Nat.mul_comm 2 k, Nat.mul_assoc]
        rw [this]
        exact Nat.le_trans (Nat.mul_le_mul_left k (by omega)) hkx, h, rfl⟩
    have e3 : (v ^ (2 * k)) ^ (x / 2) = (v ^ k) ^ (2 * (x / 2)) := by rw [← Nat.pow_mul, ← Nat.pow_mul]; congr 1; rw [Nat.mul_comm 2 k, Nat.mul_assoc]
    by_cases h2 : x % 2 = 1
    · rw [h2]
      refine ⟨_, _, _, rfl, rfl, fMul_x fb vb, _, _, _, rfl, rfl, fMul_x vb vb, _, _, _, rfl, rfl, fFdiv_nat (b := 2) (by decide) (by decide), len_line rfl, rfl, rfl, step (f * v ^ k) ?_⟩
      rw [e3, ← hf, Nat.mul_assoc, ← Nat.pow_succ']
      congr 2
      omega
    · rw [show (((x % 2 : Nat) : Int) == 1) = false from by simp; omega]
      refine ⟨_, _, _, rfl, rfl, fMul_x vb vb, _, _, _, rfl, rfl, fFdiv_nat (b := 2) (by decide) (by decide), len_line rfl, rfl, rfl, step f ?_⟩
      rw [e3, ← hf]
      congr 2
      omega
  · rw [decide_eq_false h0]
    have e0 : x = 0 := by omega
    rw [e0, Nat.pow_zero, Nat.mul_one] at hf
    show Q (.int f)
    rw [hf]
    exact hQ
def irW2 : TDS := (dWhile (dTest (dOp fLt (oSlot 2) (oSlot 3))) (dSeq (dAsg (dOp fFdiv (oVal (dOp fAdd (oVal (dOp fAdd (oSlot 2) (oSlot 3))) (oVal (dC (.int 1))))) (oVal (dC (.int 2)))) (gN 4)) (dIfS (dTest (dOp fLe (oVal (dApp sp_powered (aCons (dVar 4) (aCons (dVar 1) aNil)))) (oSlot 0))) (dAsg (dVar 4) (gN 2)) (dAsg (dOp fSub (oSlot 4) (oVal (dC (.int 1)))) (gN 3)))))
theorem fSub_one {a : Nat} (h : 1 ≤ a) : fSub (.int a) (.int 1) = some (.int ((a - 1 : Nat) : Int)) := by
  show some (D.int ((a : Int) - 1)) = _
  congr 2
  omega
theorem fLe_nat2 (a b : Nat) : fLe (.int a) (.int b) = some (.bl (decide (a ≤ b))) := by
  show some (D.bl (decide ((a : Int) ≤ (b : Int)))) = _
  congr 2
  exact decide_eq_decide.mpr (by omega)
theorem fLt_nat2 (a b : Nat) : fLt (.int a) (.int b) = some (.bl (decide (a < b))) := by
  show some (D.bl (decide ((a : Int) < (b : Int)))) = _
  rw [int_lt]
theorem irW2_ok {v t : Nat} {D : DEnds} (hv : v ≤ 10 ^ 20) (ht1 : 1 ≤ t) (ht : t < 128) (hD : ∀ (r : Nat) t4, 1 ≤ r → r ^ t ≤ v → v < (r + 1) ^ t → D.nx [.sh (.int v), .sh (.int t), .sh (.int r), .sh (.int r), t4])
    {lo hi : Nat} {t4 : Ent} (h1 : 1 ≤ lo) (h2 : lo ≤ hi) (hb : hi < 2 ^ 69) (h3 : lo ^ t ≤ v) (h4 : v < (hi + 1) ^ t) : irW2 D [.sh (.int v), .sh (.int t), .sh (.int lo), .sh (.int hi), t4] := by
  refine ⟨fun n e => ∃ (lo hi : Nat) (t4 : Ent), e = [.sh (.int v), .sh (.int t), .sh (.int lo), .sh (.int hi), t4] ∧ 1 ≤ lo ∧ lo ≤ hi ∧ hi < 2 ^ 69 ∧ lo ^ t ≤ v ∧ v < (hi + 1) ^ t ∧ n = hi - lo, ⟨_, lo, hi, t4, rfl, h1, h2, hb, h3, h4, rfl⟩, ?_⟩
  rintro n _ ⟨lo, hi, t4, rfl, h1, h2, hb, h3, h4, hn⟩
  refine ⟨_, _, _, rfl, rfl, fLt_nat2 lo hi, _, rfl, ?_⟩
  by_cases h : lo < hi
  · rw [decide_eq_true h]
    refine ⟨_, _, _, rfl, rfl, fAdd_nat lo hi, _, _, _, rfl, rfl, fAdd_nat (lo + hi) 1, _, _, _, rfl, rfl, fFdiv_nat (b := 2) (by decide) (by decide), ?_⟩
    have m1 : lo < (lo + hi + 1) / 2 := by omega
    have m2 : (lo + hi + 1) / 2 ≤ hi := by omega
    generalize (lo + hi + 1) / 2 = m at m1 m2 ⊢
    refine ⟨m, t, rfl, by omega, by omega, ht, _, _, _, rfl, rfl, fLe_nat2 _ _, _, rfl, ?_⟩
    by_cases hm : m ^ t ≤ v
    · rw [decide_eq_true hm]
      exact ⟨hi - m, by omega, m, hi, _, rfl, by omega, m2, hb, hm, h4, rfl⟩
    · rw [decide_eq_false hm]
      refine ⟨_, _, _, rfl, rfl, fSub_one (by omega), m - 1 - lo, by omega, lo, m - 1, _, rfl, h1, by omega, by omega, h3, ?_, rfl⟩
      rw [show m - 1 + 1 = m from by omega]
      omega
  · rw [decide_eq_false h]
    have e : hi = lo := by omega
    subst e
    exact hD hi t4 h1 h3 h4
theorem rd_integer_root_eq : rd_integer_root = (dSeq (dPair (aCons (dC (.int 1)) (aCons (dC (.int 2)) aNil)) 2 3) (dSeq (dWhile (dTest (dOp fLe (oVal (dApp sp_powered (aCons (dVar 3) (aCons (dVar 1) aNil)))) (oSlot 0))) (dAugM 3 (dC (.int 2)))) (dSeq irW2 (dRet (dVar 2))))) := rfl
theorem does_integer_root : Does 5 rd_integer_root sp_integer_root := by
  rintro ds Q ⟨v, t, rfl, hv1, hv, ht1, ht, hQ⟩
  rw [rd_integer_root_eq]
  have big : 2 * 10 ^ 20 + 2 < 2 ^ 69 := by decide
  refine ⟨len_line rfl, rfl, rfl, ?_⟩
  refine ⟨fun n e => ∃ h : Nat, e = [.sh (.int v), .sh (.int t), .sh (.int (1 : Nat)), .sh (.int h), .un] ∧ 2 ≤ h ∧ h ≤ 2 * v + 2 ∧ n = 2 * v + 2 - h, ⟨_, 2, rfl, Nat.le_refl 2, by omega, rfl⟩, ?_⟩
  rintro n _ ⟨h, rfl, h2, hh, hn⟩
  refine ⟨h, t, rfl, by omega, by omega, ht, _, _, _, rfl, rfl, fLe_nat2 _ _, _, rfl, ?_⟩
  by_cases hp : h ^ t ≤ v
  · rw [decide_eq_true hp]
    have hv2 : h ≤ v := Nat.le_trans (by
      have := Nat.pow_le_pow_right (show 0 < h by omega) ht1
      rwa [Nat.pow_one] at this) hp
    exact ⟨(h : Int), rfl, 2, rfl, .inr ⟨by decide, by decide⟩, 2 * v + 2 - h * 2, by omega, h * 2, rfl, by omega, by omega, rfl⟩
  · rw [decide_eq_false hp]
    refine irW2_ok hv ht1 ht (fun r t4 a b c => hQ r a b c) (Nat.le_refl 1) (by omega) (by omega) (by rw [Nat.one_pow]; exact hv1) ?_
    exact Nat.lt_of_lt_of_le (Nat.lt_of_not_le hp) (Nat.pow_le_pow_left (by omega) t)
end DL
set_option Elab.async false
set_option linter.all false
set_option maxRecDepth 100000
set_option maxHeartbeats 4000000
set_option exponentiation.threshold 10000
/-! SS: simplest -/
namespace DL
open PySem PySem.Spec L2 DM
/-- r the root of v with the greatest exponent -/
structure Simp (v r t : Nat) : Prop where
  pw : r ^ t = v
  pos : 1 ≤ t
  top : ∀ x s, x ^ s = v → s ≤ t
def sp_simplest : DSp := fun ds Q _ => ∃ v : Nat, ds = [.int v] ∧ 2 ≤ v ∧ v ≤ 10 ^ 20 ∧ ∀ r t : Nat, Simp v r t → Q (.tup [.int r, .int t])
/-- simplest: slots value, top, left, times, root_here -/
def rd_simplest : TDS := (dSeq (dPair (aCons (dC (.int 0)) (aCons (dVar 0) aNil)) 1 2) (dSeq (dWhile (dTest (dOp fGt (oSlot 2) (oVal (dC (.int 1))))) (dPair (aCons (dOp fAdd (oSlot 1) (oVal (dC (.int 1)))) (aCons (dOp fFdiv (oSlot 2) (oVal (dC (.int 2)))) aNil)) 1 2)) (dSeq (dFor (iRangeD (aoCons (oSlot 1) (aoCons (oVal (dC (.int 1))) (aoCons (oVal (dUn fNeg (oVal (dC (.int 1))))) aoNil)))) (gN 3) (dSeq (dAsg (dApp sp_integer_root (aCons (dVar 0) (aCons (dVar 3) aNil))) (gN 4)) (dIfS (dTest (dOp fEq (oVal (dApp sp_powered (aCons (dVar 4) (aCons (dVar 3) aNil)))) (oSlot 0))) (dRet (dTup (aCons (dVar 4) (aCons (dVar 3) aNil)))) dNext))) (dRet (dTup (aCons (dVar 0) (aCons (dC (.int 1)) aNil)))))))
def smB : TDS := (dSeq (dAsg (dApp sp_integer_root (aCons (dVar 0) (aCons (dVar 3) aNil))) (gN 4)) (dIfS (dTest (dOp fEq (oVal (dApp sp_powered (aCons (dVar 4) (aCons (dVar 3) aNil)))) (oSlot 0))) (dRet (dTup (aCons (dVar 4) (aCons (dVar 3) aNil)))) dNext))
theorem rd_simplest_eq : rd_simplest = (dSeq (dPair (aCons (dC (.int 0)) (aCons (dVar 0) aNil)) 1 2) (dSeq (dWhile (dTest (dOp fGt (oSlot 2) (oVal (dC (.int 1))))) (dPair (aCons (dOp fAdd (oSlot 1) (oVal (dC (.int 1)))) (aCons (dOp fFdiv (oSlot 2) (oVal (dC (.int 2)))) aNil)) 1 2)) (dSeq (dFor (iRangeD (aoCons (oSlot 1) (aoCons (oVal (dC (.int 1))) (aoCons (oVal (dUn fNeg (oVal (dC (.int 1))))) aoNil)))) (gN 3) smB) (dRet (dTup (aCons (dVar 0) (aCons (dC (.int 1)) aNil))))))) := rfl
def downL (m T : Nat) : List D := (List.range m).map fun k : Nat => D.int ((T : Int) + (k : Int) * (-1))
theorem downL_succ (m T : Nat) (h : 1 ≤ T) : downL (m + 1) T = .int T :: downL m (T - 1) := by
  unfold downL
  rw [List.range_succ_eq_map, List.map_cons, List.map_map]
  have e1 : D.int ((T : Int) + ((0 : Nat) : Int) * (-1)) = D.int T := by simp
  have e2 : ((List.range m).map ((fun k : Nat => D.int ((T : Int) + (k : Int) * (-1))) ∘ Nat.succ)) = (List.range m).map fun k : Nat => D.int (((T - 1 : Nat) : Int) + (k : Int) * (-1)) := by
    apply List.map_congr_left
    intro k _
    show D.int ((T : Int) + ((k + 1 : Nat) : Int) * (-1)) = D.int (((T - 1 : Nat) : Int) + (k : Int) * (-1))
    congr 1
    omega
  rw [e1, e2]
theorem root_uniq {v x r s : Nat} (hs : 1 ≤ s) (hx : x ^ s = v) (h1 : r ^ s ≤ v) (h2 : v < (r + 1) ^ s) : x = r := by
  have a : ¬ x < r := fun z => by
    have := Nat.pow_lt_pow_left z (show s ≠ 0 by omega)
    omega
  have b : ¬ r < x := fun z => by
    have := Nat.pow_le_pow_left (show r + 1 ≤ x from z) s
    omega
  omega
theorem sm_loop {v : Nat} (h2 : 2 ≤ v) (hv : v ≤ 10 ^ 20) {F : DEnds} (hQ : ∀ r t : Nat, Simp v r t → F.rt (.tup [.int r, .int t])) {X1 X2 : Ent} (hF : (∀ x s, x ^ s = v → s ≤ 1) → ∀ t3 t4, F.nx [.sh (.int v), X1, X2, t3, t4]) :
    ∀ (m : Nat) (t3 t4 : Ent), m + 1 < 128 → (∀ x s, x ^ s = v → s ≤ m + 1) → forL (fun _ => True) (gN 3) smB F (downL m (m + 1)) [.sh (.int v), X1, X2, t3, t4]
  | 0, t3, t4, _, hn => ⟨trivial, hF hn t3 t4⟩
  | m + 1, t3, t4, hm, hn => by
    rw [downL_succ m (m + 1 + 1) (by omega)]
    refine ⟨trivial, v, m + 1 + 1, rfl, by omega, hv, by omega, hm, fun r r1 a b => ?_⟩
    have rb : r < 2 ^ 70 := by
      have c : r ^ 1 ≤ r ^ (m + 1 + 1) := Nat.pow_le_pow_right r1 (by omega)
      rw [Nat.pow_one] at c
      have : (10 : Nat) ^ 20 < 2 ^ 70 := by decide
      omega
    refine ⟨r, m + 1 + 1, rfl, r1, rb, hm, _, _, _, rfl, rfl, fEq_int _ _, _, rfl, ?_⟩
    by_cases he : r ^ (m + 1 + 1) = v
    · rw [show ((((r ^ (m + 1 + 1) : Nat) : Int)) == (v : Int)) = true from by rw [he]; simp]
      exact ⟨len_line rfl, hQ r _ ⟨he, by omega, hn⟩⟩
    · rw [show ((((r ^ (m + 1 + 1) : Nat) : Int)) == (v : Int)) = false from by
        rw [beq_eq_false_iff_ne]
        exact fun z => he (by exact_mod_cast z)]
      refine sm_loop h2 hv hQ hF m _ _ (by omega) fun x s hx => ?_
      have h1 := hn x s hx
      by_cases hs : s = m + 1 + 1
      · exfalso
        subst hs
        have := root_uniq (by omega) hx a b
        rw [this] at hx
        exact he hx
      · omega
theorem does_simplest : Does 5 rd_simplest sp_simplest := by
  rintro ds Q ⟨v, rfl, h2, hv, hQ⟩
  rw [rd_simplest_eq]
  refine ⟨len_line rfl, rfl, rfl, ?_⟩
  refine ⟨fun n e => ∃ k l : Nat, e = [.sh (.int v), .sh (.int k), .sh (.int l), .un, .un] ∧ 1 ≤ l ∧ l * 2 ^ k ≤ v ∧ v < (l + 1) * 2 ^ k ∧ n = l, ⟨v, 0, v, rfl, by omega, by omega, by omega, rfl⟩, ?_⟩
  rintro n _ ⟨k, l, rfl, hl, ha, hb, hn⟩
  refine ⟨_, _, _, rfl, rfl, fGt_nat l 1, _, rfl, ?_⟩
  by_cases h : 1 < l
  · rw [decide_eq_true h]
    have p0 : 0 < 2 ^ k := Nat.pow_pos (by decide)
    refine ⟨_, _, _, rfl, rfl, fAdd_nat k 1, _, _, _, rfl, rfl, fFdiv_nat (b := 2) (by decide) (by decide), len_line rfl, rfl, rfl, l / 2, by omega, k + 1, l / 2, rfl, by omega, ?_, ?_, rfl⟩
    · rw [Nat.pow_succ, Nat.mul_comm (2 ^ k) 2, ← Nat.mul_assoc]
      exact Nat.le_trans (Nat.mul_le_mul_right _ (by omega)) ha
    · rw [Nat.pow_succ, Nat.mul_comm (2 ^ k) 2, ← Nat.mul_assoc]
      exact Nat.lt_of_lt_of_le hb (Nat.mul_le_mul_right _ (by omega))
  · rw [decide_eq_false h]
    have e : l = 1 := by omega
    subst e
    rw [Nat.one_mul] at ha
    have k1 : 1 ≤ k := by
      rcases Nat.eq_zero_or_pos k with z | z
      · rw [z] at hb
        omega
      · exact z
    have kb : k < 128 := by
      have : 2 ^ k < 2 ^ 127 := Nat.lt_of_le_of_lt (Nat.le_trans ha hv) (by decide)
      have := (Nat.pow_lt_pow_iff_right (by decide : 1 < 2)).mp this
      omega
    have top : ∀ x s, x ^ s = v → s ≤ k := fun x s hx => by
      have x2 : 2 ≤ x := by
        rcases Nat.lt_or_ge x 2 with z | z
        · exfalso
          match x, z with
          | 0, _ =>
            rcases Nat.eq_zero_or_pos s with y | y
            · rw [y, Nat.pow_zero] at hx
              omega
            · rw [Nat.zero_pow y] at hx
              omega
          | 1, _ =>
            rw [Nat.one_pow] at hx
            omega
        · exact z
      have a : 2 ^ s ≤ v := by
        rw [← hx]
        exact Nat.pow_le_pow_left x2 s
      have b : 2 ^ s < 2 ^ (k + 1) := by
        rw [Nat.pow_succ]
        omega
      have := (Nat.pow_lt_pow_iff_right (by decide : 1 < 2)).mp b
      omega
    refine ⟨_, _, rfl, rfl, (k : Int), 1, rfl, ⟨by omega, by omega, by omega, by omega⟩, ?_⟩
    have e1 : ((List.range ((k : Int) - 1).toNat).map fun j : Nat => D.int ((k : Int) + (j : Int) * (-1))) = downL (k - 1) (k - 1 + 1) := by
      unfold downL
      rw [show ((k : Int) - 1).toNat = k - 1 from by omega, show k - 1 + 1 = k from by omega]
    rw [e1]
    refine sm_loop h2 hv hQ (fun h1 t3 t4 => ?_) (k - 1) _ _ (by omega) fun x s hx => by have := top x s hx; omega
    exact ⟨len_line rfl, hQ v 1 ⟨Nat.pow_one v, Nat.le_refl 1, h1⟩⟩
end DL
set_option Elab.async false
set_option linter.all false
set_option maxRecDepth 100000
set_option maxHeartbeats 4000000
/-! MQ: squares: coprime parts, powers of roots -/
namespace DL
open PySem PySem.Spec L2 DM
theorem sq_part {a b s : Nat} (h : Nat.Coprime a b) (e : a * b = s ^ 2) : a = (Nat.gcd a s) ^ 2 := by
  rw [← Nat.pow_gcd_pow, ← e, Nat.pow_two, Nat.gcd_mul_left, h, Nat.mul_one]
theorem sq_dvd {x y : Nat} (h : x ^ 2 ∣ y ^ 2) : x ∣ y := (Nat.pow_dvd_pow_iff (by decide)).mp h
theorem simp_even {v r t e y : Nat} (h : Simp v r t) (hv : 2 ≤ v) (hy : v ^ e = y ^ 2) : (t * e) % 2 = 0 := by
  rcases Nat.mod_two_eq_zero_or_one (t * e) with z | z
  · exact z
  · exfalso
    have e1 : r ^ (t * e) = y ^ 2 := by rw [Nat.pow_mul, h.pw, hy]
    obtain ⟨j, hj⟩ : ∃ j, t * e = 2 * j + 1 := ⟨t * e / 2, by omega⟩
    have r0 : 0 < r := by
      rcases Nat.eq_zero_or_pos r with q | q
      · have := h.pw
        rw [q, Nat.zero_pow h.pos] at this
        omega
      · exact q
    have e2 : r ^ (2 * j + 1) = (r ^ j) ^ 2 * r := by rw [Nat.pow_succ, Nat.mul_comm 2 j, Nat.pow_mul]
    rw [hj, e2] at e1
    obtain ⟨z', hz⟩ := sq_dvd (x := r ^ j) (y := y) ⟨r, e1.symm⟩
    rw [hz, Nat.mul_pow] at e1
    have e3 : r = z' ^ 2 := Nat.eq_of_mul_eq_mul_left (Nat.pow_pos (Nat.pow_pos r0)) e1
    have e4 : z' ^ (2 * t) = v := by rw [Nat.pow_mul, ← e3, h.pw]
    have := h.top z' (2 * t) e4
    have := h.pos
    omega
end DL
set_option Elab.async false
set_option linter.all false
set_option maxRecDepth 100000
set_option maxHeartbeats 4000000
set_option exponentiation.threshold 10000
/-! SN: roots, coprime bases of any number of writings, members: promises, readings -/
namespace DL
open PySem PySem.Spec L2 DM
abbrev wrD (w : List (Nat × Nat)) : D := .tup (w.map pairD)
def basesL (ws : List (List (Nat × Nat))) : List Nat := ws.flatMap fun w => w.map (·.1)
def sp_cbn : DSp := fun ds Q _ => ∃ (R : Nat) (ws : List (List (Nat × Nat))), ds = [.tup (ws.map wrD)] ∧ ws.length ≤ 20 ∧ (∀ w ∈ ws, WF R w) ∧ ∀ bs, Refd (basesL ws) bs → Q (.tup (intsD bs))
def sp_common_baseN : DSp := spStar 0 sp_cbn
def zrt (rts : List (Nat × Nat)) (es : List Nat) : List (Nat × Nat) := List.zipWith (fun (rt : Nat × Nat) e => (rt.1, rt.2 * e)) rts es
def sp_simple_powers : DSp := fun ds Q _ => ∃ (R : Nat) (w : List (Nat × Nat)), ds = [num w] ∧ ROk R ∧ WF R w ∧ ∀ (bs es : List Nat) (rts : List (Nat × Nat)), BOk R bs → es.length = bs.length → pp bs es = val w → (∀ e ∈ es, 1 ≤ e) → F2 (fun b (rt : Nat × Nat) => Simp b rt.1 rt.2) bs rts → Q (.lst ((zrt rts es).map pairD))
def sp_root : DSp := fun ds Q _ => ∃ (R : Nat) (w : List (Nat × Nat)) (s : Nat), ds = [num w, .int 2] ∧ ROk R ∧ WF R w ∧ val w = s ^ 2 ∧ ∀ w', WF R w' → val w' = s → Q (num w')
def sp_greatest_root : DSp := fun ds Q _ => ∃ (R : Nat) (w : List (Nat × Nat)) (s k : Nat), ds = [num w] ∧ ROk R ∧ WF R w ∧ val w = s ^ 2 ∧ w ≠ [] ∧ val w < 2 ^ k ∧ k < 2 ^ 1000 ∧ ∀ (w' : List (Nat × Nat)) (j : Nat), Q (.tup [num w', .int ((2 * j : Nat) : Int)])
def sp_cpb : DSp := fun ds Q _ => ∃ (R : Nat) (ws : List (List (Nat × Nat))), ds = [.tup (ws.map num)] ∧ ws.length ≤ 20 ∧ (∀ w ∈ ws, WF R w) ∧ ∀ bs, Refd (basesL ws) bs → Q (.tup (intsD bs))
def sp_coprime_base : DSp := spStar 0 sp_cpb
def sp_contains : DSp := fun ds Q _ => ∃ (R : Nat) (w : List (Nat × Nat)) (b : Nat), ds = [num w, .int b] ∧ ROk R ∧ WF R w ∧ OkB R b ∧ Q (.bl (decide (b ∣ val w)))
/-- simple_powers: slots number, base, found, item, exponent, least, times -/
def rd_simple_powers : TDS := (dSeq (dAsg (dApp sp_common_baseN (aCons (dFld "Number" "powers" (dVar 0)) aNil)) (gN 1)) (dSeq (dOwn (fLst aNil) 2) (dSeq (dFor (iZipD (aCons (dVar 1) (aCons (dApp sp_exponents_over (aCons (dFld "Number" "powers" (dVar 0)) (aCons (dVar 1) aNil))) aNil))) (gTupD 2 (gConsD (gN 3) (gConsD (gN 4) gNilD))) (dSeq (dAsg (dApp sp_simplest (aCons (dVar 3) aNil)) (gTupD 2 (gConsD (gN 5) (gConsD (gN 6) gNilD)))) (dExpr (dMeth 2 fAppend (aCons (dTup (aCons (dVar 5) (aCons (dOp fMul (oSlot 6) (oSlot 4)) aNil))) aNil))))) (dRet (dVar 2)))))
/-- root: slots number, times, found, base, exponent, pairs -/
def rd_root : TDS := (dSeq (dExpr (dApp sp_check_number (aCons (dVar 0) aNil))) (dSeq (dIfS (dNot (dTru (oVal (dApp sp_is_integer (aCons (dVar 1) (aCons (dC (.int 1)) (aCons (dC .non) aNil))))))) dNever dNext) (dSeq (dAsg (dApp sp_simple_powers (aCons (dVar 0) aNil)) (gN 2)) (dSeq (dIfS (dTest (dOp fNe (oVal (dNew (fLc (iSeqD (dVar 2)) [3, 4] (gTupD 2 (gConsD (gN 3) (gConsD (gN 4) gNilD))) (dTest (dOp fNe (oVal (dOp fMod (oSlot 4) (oSlot 1))) (oVal (dC (.int 0))))) (dVar 4)))) (oVal (dNew (fLst aNil))))) dNever dNext) (dSeq (dAsg (dNew (fLc (iSeqD (dVar 2)) [3, 4] (gTupD 2 (gConsD (gN 3) (gConsD (gN 4) gNilD))) dYes (dTup (aCons (dVar 3) (aCons (dOp fFdiv (oSlot 4) (oSlot 1)) aNil))))) (gN 5)) (dRet (dAppS sp_Number (oSlot 5))))))))
/-- greatest_root: slots number, found, times, base, exponent, pairs -/
def rd_greatest_root : TDS := (dSeq (dExpr (dApp sp_check_number (aCons (dVar 0) aNil))) (dSeq (dIfS (dTest (dOp fEq (oVal (dFld "Number" "powers" (dVar 0))) (oVal (dTup aNil)))) dNever dNext) (dSeq (dPair (aCons (dApp sp_simple_powers (aCons (dVar 0) aNil)) (aCons (dC (.int 0)) aNil)) 1 2) (dSeq (dFor (iSeqD (dVar 1)) (gTupD 2 (gConsD (gN 3) (gConsD (gN 4) gNilD))) (dAsg (dApp sp_common_divisor (aCons (dVar 4) (aCons (dVar 2) aNil))) (gN 2))) (dSeq (dAsg (dNew (fLc (iSeqD (dVar 1)) [3, 4] (gTupD 2 (gConsD (gN 3) (gConsD (gN 4) gNilD))) dYes (dTup (aCons (dVar 3) (aCons (dOp fFdiv (oSlot 4) (oSlot 2)) aNil))))) (gN 5)) (dRet (dTup (aCons (dAppS sp_Number (oSlot 5)) (aCons (dVar 2) aNil)))))))))
/-- coprime_base: slots numbers, writings, number -/
def rd_coprime_base : TDS := (dSeq (dExpr (dApp sp_check_numbers (aCons (dVar 0) (aCons (dC (.int 0)) aNil)))) (dSeq (dAsg (dNew (fLc (iSeqD (dVar 0)) [2] (gN 2) dYes (dFld "Number" "powers" (dVar 2)))) (gN 1)) (dRet (dAppS sp_common_baseN (oSlot 1)))))
/-- Number.__contains__: slots self, value -/
def rd_Number_contains : TDS := (dSeq (dIfS (dNot (dTru (oVal (dApp sp_is_integer (aCons (dVar 1) (aCons (dC (.int 1)) (aCons (dC (.int 100000000000000000000)) aNil))))))) (dRet (dC (.bl false))) dNext) (dRet (dApp sp_divides (aCons (dIf (dTest (dOp fGt (oSlot 1) (oVal (dC (.int 1))))) (dApp sp_Number (aCons (dTup (aCons (dVar 1) (aCons (dC (.int 1)) aNil))) aNil)) (dApp0 sp_Number)) (aCons (dVar 0) aNil)))))
end DL
set_option Elab.async false
set_option linter.all false
set_option maxRecDepth 100000
set_option maxHeartbeats 4000000
set_option exponentiation.threshold 10000
/-! QN: roots, coprime bases of any number of writings, members: plain laws -/
namespace DL
open PySem PySem.Spec L2 DM
/-! ### common_base -/
theorem basesL_len : ∀ {ws : List (List (Nat × Nat))}, (∀ w ∈ ws, w.length ≤ 4096) → (basesL ws).length ≤ ws.length * 4096
  | [], _ => Nat.le_refl _
  | w :: ws, h => by
    have ih := basesL_len (ws := ws) fun x hx => h x (List.mem_cons_of_mem _ hx)
    have h1 := h w List.mem_cons_self
    have e : basesL (w :: ws) = w.map (·.1) ++ basesL ws := rfl
    rw [e, List.length_append, List.length_map, List.length_cons]
    omega
theorem basesL_ok {R : Nat} : ∀ {ws : List (List (Nat × Nat))}, (∀ w ∈ ws, WF R w) → ∀ x ∈ basesL ws, OkB R x := fun {ws} h x hx => by
  obtain ⟨w, hw, hx⟩ := List.mem_flatMap.mp hx
  obtain ⟨p, hp, e⟩ := List.mem_map.mp hx
  rw [← e]
  exact ((h w hw).ok p hp).1
theorem cbn_loop {C : DEnv → Prop} {E0 : Ent} {Q : List D → DEnv → Prop} (hC : ∀ e, C e) : ∀ (ws : List (List (Nat × Nat))) (acc : List D), acc.length + ws.length * 4096 ≤ 100000 → (∀ w ∈ ws, w.length ≤ 4096) →
    Q (acc ++ intsD (basesL ws)) [E0, .un, .un, .un] →
    lcO C [1, 2, 3] [2, 3] (gN 1) dYes (iSeqD (dVar 1)) (gTupD 2 (gConsD (gN 2) (gConsD (gN 3) gNilD))) dYes (dVar 2) Q (ws.map wrD) acc [E0, .un, .un, .un]
  | [], acc, _, _, hQ => ⟨hC _, by simpa [basesL, intsD] using hQ⟩
  | w :: ws, acc, hl, hw, hQ => by
    rw [List.length_cons] at hl
    have h1 := hw w List.mem_cons_self
    refine ⟨hC _, _, rfl, ?_⟩
    refine lcI_bases (e := [E0, .sh (wrD w), .un, .un]) trivial (by omega) (fun p hp K1 hK => hK _ rfl) ?_
    refine cbn_loop hC ws _ ?_ (fun x hx => hw x (List.mem_cons_of_mem _ hx)) ?_
    · rw [List.length_append, intsD_len, List.length_map]
      omega
    · have e : acc ++ intsD (w.map (·.1)) ++ intsD (basesL ws) = acc ++ intsD (basesL (w :: ws)) := by
        rw [List.append_assoc, intsD_app] <;> rfl
      rw [e]
      exact hQ
theorem does_common_baseN : Does 4 rd_common_base sp_cbn := by
  rintro ds Q ⟨R, ws, rfl, hl, hw, hQ⟩
  have hw' : ∀ w ∈ ws, w.length ≤ 4096 := fun w h => (hw w h).ln
  refine ⟨_, rfl, ?_⟩
  refine cbn_loop (fun _ => trivial) ws [] (by simp; omega) hw' ?_
  have hbl := basesL_len hw'
  exact ⟨basesL ws, by rw [List.nil_append], by omega, fun x hx => (basesL_ok hw x hx).hi, hQ⟩
theorem cb_of_cbn : ∀ ds Q, sp_cb ds Q DX0 → sp_cbn ds Q DX0 := by
  rintro ds Q ⟨R, w1, w2, rfl, hR, h1, h2, hQ⟩
  refine ⟨R, [w1, w2], rfl, Nat.le_of_ble_eq_true rfl, fun w hw => ?_, fun bs hb => ?_⟩
  · rcases List.mem_cons.mp hw with e | hw
    · rw [e]
      exact h1
    · rw [List.mem_singleton.mp hw]
      exact h2
  · have e : basesL [w1, w2] = w1.map (·.1) ++ w2.map (·.1) := by simp [basesL]
    rw [e] at hb
    obtain ⟨g1, g2, g3⟩ := refd_ok h1 h2 hb
    exact hQ bs g1 g2 g3
theorem cb_star : ∀ ds Q, sp_common_base ds Q DX0 → sp_common_baseN ds Q DX0 := fun ds Q ⟨a, b, c⟩ => ⟨a, b, cb_of_cbn _ _ c⟩
theorem refdN_ok {R : Nat} {ws : List (List (Nat × Nat))} {bs : List Nat} (h : ∀ w ∈ ws, WF R w) (hb : Refd (basesL ws) bs) : BOk R bs ∧ ∀ w ∈ ws, ∀ p ∈ w, Mon bs p.1 := by
  refine ⟨⟨hb.pc, fun b hbm => ?_⟩, fun w hw p hp => ?_⟩
  · obtain ⟨x, hx, hx1, hd⟩ := hb.dvd b hbm
    have ho := basesL_ok h x hx
    have hb1 := hb.pc.gt b hbm
    obtain ⟨k, hk⟩ := ho.su
    exact ⟨hb1, Nat.le_trans (Nat.le_of_dvd (by omega) hd) ho.hi, k, Nat.dvd_trans hd hk⟩
  · exact hb.mon p.1 (List.mem_flatMap.mpr ⟨w, hw, List.mem_map.mpr ⟨p, hp, rfl⟩⟩) ((h w hw).ok p hp).1.lo
/-! ### simple_powers -/
theorem Simp.r2 {v r t : Nat} (h : Simp v r t) (hv : 2 ≤ v) : 2 ≤ r := by
  have hp := h.pos
  have he := h.pw
  rcases Nat.lt_or_ge r 2 with z | z
  · exfalso
    match r, z with
    | 0, _ =>
      rw [Nat.zero_pow hp] at he
      omega
    | 1, _ =>
      rw [Nat.one_pow] at he
      omega
  · exact z
theorem Simp.t67 {v r t : Nat} (h : Simp v r t) (hv : 2 ≤ v) (hh : v ≤ 10 ^ 20) : t < 67 := by
  have h2 := h.r2 hv
  have a : 2 ^ t ≤ v := by
    rw [← h.pw]
    exact Nat.pow_le_pow_left h2 t
  have b : 2 ^ t < 2 ^ 67 := Nat.lt_of_le_of_lt (Nat.le_trans a hh) (by decide)
  exact (Nat.pow_lt_pow_iff_right (by decide : 1 < 2)).mp b
theorem fMul_ts {t e : Nat} (h : t < 128) : fMul (.int t) (.int e) = some (.int ((t * e : Nat) : Int)) := by
  rw [fMul_small (.inl ⟨by omega, by omega⟩)]
  have e1 : (t : Int) * (e : Int) = ((t * e : Nat) : Int) := by simp
  rw [e1]
def spB : TDS := (dSeq (dAsg (dApp sp_simplest (aCons (dVar 3) aNil)) (gTupD 2 (gConsD (gN 5) (gConsD (gN 6) gNilD)))) (dExpr (dMeth 2 fAppend (aCons (dTup (aCons (dVar 5) (aCons (dOp fMul (oSlot 6) (oSlot 4)) aNil))) aNil))))
theorem sp_loop {X0 X1 : Ent} {Q : DEnv → Prop} {rt : D → Prop} : ∀ (bs es : List Nat) (acc : List (Nat × Nat)) (t3 t4 t5 t6 : Ent), es.length = bs.length → (∀ b ∈ bs, 2 ≤ b ∧ b ≤ 10 ^ 20) → acc.length + bs.length ≤ 100000 →
    (∀ rts t3 t4 t5 t6, F2 (fun b (rt : Nat × Nat) => Simp b rt.1 rt.2) bs rts → Q [X0, X1, .ol ((acc ++ zrt rts es).map pairD), t3, t4, t5, t6]) →
    forL (fun _ => True) (gTupD 2 (gConsD (gN 3) (gConsD (gN 4) gNilD))) spB { nx := Q, rt := rt } ((bs.zip es).map pairD) [X0, X1, .ol (acc.map pairD), t3, t4, t5, t6]
  | [], es, acc, t3, t4, t5, t6, hl, hb, hn, hQ => by
    have := hQ [] t3 t4 t5 t6 trivial
    rw [show acc ++ zrt [] es = acc from List.append_nil _] at this
    exact ⟨trivial, this⟩
  | b :: bs, [], _, _, _, _, _, hl, _, _, _ => nomatch hl
  | b :: bs, e :: es, acc, t3, t4, t5, t6, hl, hb, hn, hQ => by
    obtain ⟨b2, b20⟩ := hb b List.mem_cons_self
    rw [List.length_cons] at hn
    refine ⟨trivial, rfl, rfl, b, rfl, b2, b20, fun r t hs => ⟨rfl, rfl, ?_⟩⟩
    have ht := hs.t67 b2 b20
    refine ⟨⟨_, rfl⟩, _, _, _, rfl, rfl, fMul_ts (by omega), len_line rfl, _, _, _, rfl, fApp (by rw [List.length_map]; omega), ?_⟩
    have e1 : acc.map pairD ++ [D.tup [.int r, .int ((t * e : Nat) : Int)]] = (acc ++ [(r, t * e)]).map pairD := by
      rw [List.map_append] <;> rfl
    rw [e1]
    refine sp_loop bs es _ _ _ _ _ (Nat.succ.inj hl) (fun x hx => hb x (List.mem_cons_of_mem _ hx)) (by rw [List.length_append, List.length_singleton]; omega) fun rts t3 t4 t5 t6 hr => ?_
    have := hQ ((r, t) :: rts) t3 t4 t5 t6 ⟨hs, hr⟩
    rw [show acc ++ zrt ((r, t) :: rts) (e :: es) = acc ++ [(r, t * e)] ++ zrt rts es from by rw [List.append_assoc] <;> rfl] at this
    exact this
theorem zipOf_zip : ∀ (es fs : List Nat), zipOf (intsD es) (intsD fs) = (es.zip fs).map pairD := fun es fs => zipOf_pairs es fs
theorem val_dvd1 : ∀ {w : List (Nat × Nat)} {p : Nat × Nat}, p ∈ w → 1 ≤ p.2 → p.1 ∣ val w
  | q :: w, p, h, h1 => by
    rcases List.mem_cons.mp h with rfl | h
    · exact Nat.dvd_trans ⟨p.1 ^ (p.2 - 1), by rw [← Nat.pow_succ']; congr 1; omega⟩ (Nat.dvd_mul_right _ _)
    · exact Nat.dvd_trans (val_dvd1 h h1) (Nat.dvd_mul_left _ _)
/-- an item that divides what a base makes has an exponent -/
theorem pp_hit {bs es : List Nat} (h : PC bs) (hl : es.length = bs.length) (hd : ∀ b ∈ bs, b ∣ pp bs es) : ∀ e ∈ es, 1 ≤ e := fun e he => by
  obtain ⟨i, hi, rfl⟩ := List.getElem_of_mem he
  obtain ⟨m, e1, e2, e3⟩ := pp_split h hl i (by omega) hi
  rcases Nat.eq_zero_or_pos es[i] with z | z
  · exfalso
    rw [z, Nat.pow_zero, Nat.one_mul] at e1
    have := hd bs[i] (List.getElem_mem _)
    rw [e1] at this
    exact e2 this
  · exact z
theorem does_simple_powers : Does 7 rd_simple_powers sp_simple_powers := by
  rintro ds Q ⟨R, w, rfl, hR, hw, hQ⟩
  refine ⟨_, _, _, rfl, rfl, Nat.zero_le _, len_line rfl, R, [w], rfl, Nat.le_of_ble_eq_true rfl, fun x hx => by rw [List.mem_singleton.mp hx]; exact hw, fun bs hb => ?_⟩
  obtain ⟨hB, hm⟩ := refdN_ok (fun x hx => by rw [List.mem_singleton.mp hx]; exact hw) hb
  refine ⟨len_line rfl, Nat.le_of_ble_eq_true rfl, _, _, _, rfl, rfl, R, w, bs, rfl, hR, hw, hB, hm w List.mem_cons_self, fun es he1 he2 => ?_⟩
  refine ⟨_, _, _, _, rfl, rfl, rfl, ?_⟩
  rw [zipOf_zip]
  have hbl := hB.len hR
  refine sp_loop bs es [] _ _ _ _ he1 (fun b hb => ⟨(hB.ok b hb).lo, (hB.ok b hb).hi⟩) (by simp; omega) fun rts t3 t4 t5 t6 hr => ?_
  refine hQ bs es rts hB he1 he2 (pp_hit hB.pc he1 fun b hbm => ?_) hr
  obtain ⟨x, hx, hx1, hd⟩ := hb.dvd b hbm
  rw [he2]
  have e : basesL [w] = w.map (·.1) := by simp [basesL]
  rw [e] at hx
  obtain ⟨p, hp, rfl⟩ := List.mem_map.mp hx
  exact Nat.dvd_trans hd (val_dvd1 hp (hw.ok p hp).2)
/-! ### squares -/
theorem val_zrt : ∀ {bs es : List Nat} {rts : List (Nat × Nat)}, es.length = bs.length → F2 (fun b (rt : Nat × Nat) => Simp b rt.1 rt.2) bs rts → val (zrt rts es) = pp bs es
  | [], [], [], _, _ => rfl
  | b :: bs, e :: es, (r, t) :: rts, h, ⟨h1, h2⟩ => by
    show r ^ (t * e) * val (zrt rts es) = b ^ e * pp bs es
    rw [val_zrt (Nat.succ.inj h) h2, Nat.pow_mul]
    have : r ^ t = b := h1.pw
    rw [this]
  | [], _ :: _, _, h, _ => nomatch h
  | _ :: _, [], _, h, _ => nomatch h
  | [], [], _ :: _, _, h => h.elim
  | _ :: _, _ :: _, [], _, h => h.elim
theorem zrt_ok {R : Nat} : ∀ {bs es : List Nat} {rts : List (Nat × Nat)}, PC bs → (∀ b ∈ bs, OkB R b) → es.length = bs.length → F2 (fun b (rt : Nat × Nat) => Simp b rt.1 rt.2) bs rts → (∀ e ∈ es, 1 ≤ e) → (∃ s, pp bs es = s ^ 2) →
    ∀ p ∈ zrt rts es, OkB R p.1 ∧ p.2 % 2 = 0 ∧ 1 ≤ p.2 / 2
  | [], [], [], _, _, _, _, _, _, p, hp => nomatch hp
  | b :: bs, e :: es, (r, t) :: rts, hc, ho, hl, ⟨h1, h2⟩, he, ⟨s, hs⟩, p, hp => by
    have hs : b ^ e * pp bs es = s ^ 2 := hs
    have c : Nat.Coprime (b ^ e) (pp bs es) := hc.coP e
    have s1 := sq_part c hs
    have s2 := sq_part (Nat.Coprime.symm c) (by rw [Nat.mul_comm]; exact hs)
    have hp : p ∈ (r, t * e) :: zrt rts es := hp
    have hob := ho b List.mem_cons_self
    rcases List.mem_cons.mp hp with rfl | hp
    · have ev := simp_even h1 hob.lo s1
      have e1 := he e List.mem_cons_self
      have t1 : 1 ≤ t := h1.pos
      have : 1 ≤ t * e := Nat.mul_pos t1 e1
      have hd : r ∣ b := by
        have : r ^ t = b := h1.pw
        rw [← this]
        exact Nat.dvd_trans (Nat.dvd_refl r) ⟨r ^ (t - 1), by rw [← Nat.pow_succ']; congr 1; omega⟩
      obtain ⟨k, hk⟩ := hob.su
      refine ⟨⟨h1.r2 hob.lo, Nat.le_trans (Nat.le_of_dvd (by have := hob.lo; omega) hd) hob.hi, k, Nat.dvd_trans hd hk⟩, ev, ?_⟩
      show 1 ≤ t * e / 2
      generalize t * e = x at *
      omega
    · exact zrt_ok hc.tail (fun x hx => ho x (List.mem_cons_of_mem _ hx)) (Nat.succ.inj hl) h2 (fun x hx => he x (List.mem_cons_of_mem _ hx)) ⟨_, s2⟩ p hp
  | [], _ :: _, _, _, _, h, _, _, _, _, _ => nomatch h
  | _ :: _, [], _, _, _, h, _, _, _, _, _ => nomatch h
  | [], [], _ :: _, _, _, _, h, _, _, _, _ => h.elim
  | _ :: _, _ :: _, [], _, _, _, h, _, _, _, _ => h.elim
def half (p : Nat × Nat) : Nat × Nat := (p.1, p.2 / 2)
theorem val_half : ∀ {fs : List (Nat × Nat)}, (∀ p ∈ fs, p.2 % 2 = 0) → val (fs.map half) ^ 2 = val fs
  | [], _ => rfl
  | p :: fs, h => by
    show (p.1 ^ (p.2 / 2) * val (fs.map half)) ^ 2 = p.1 ^ p.2 * val fs
    rw [Nat.mul_pow, val_half fun q hq => h q (List.mem_cons_of_mem _ hq), ← Nat.pow_mul]
    have := h p List.mem_cons_self
    congr 2
    omega
theorem zrt_len {es bs : List Nat} {rts : List (Nat × Nat)} (hl : es.length = bs.length) : (zrt rts es).length ≤ bs.length := by
  unfold zrt
  rw [List.length_zipWith]
  omega
theorem fm_none {fs : List (Nat × Nat)} : fs.filterMap (fun _ => (none : Option D)) = [] := by
  induction fs with
  | nil => rfl
  | cons p fs ih => exact ih
theorem sq_inj {a b : Nat} (h : a ^ 2 = b ^ 2) : a = b := by
  rcases Nat.lt_trichotomy a b with z | z | z
  · have := Nat.pow_lt_pow_left z (show 2 ≠ 0 by decide)
    omega
  · exact z
  · have := Nat.pow_lt_pow_left z (show 2 ≠ 0 by decide)
    omega
theorem does_root : Does 6 rd_root sp_root := by
  rintro ds Q ⟨R, w, s, rfl, hR, hw, hs, hQ⟩
  refine ⟨w, rfl, .inl ⟨2, 1, rfl, ?_⟩⟩
  rw [show decide ((1 : Int) ≤ 2) = true from rfl]
  refine ⟨_, _, rfl, rfl, R, w, rfl, hR, hw, fun bs es rts hb hl he h1 h2 => ?_⟩
  have ok := zrt_ok hb.pc hb.ok hl h2 h1 ⟨s, by rw [he, hs]⟩
  have hv : val (zrt rts es) = s ^ 2 := by rw [val_zrt hl h2, he, hs]
  have hzl : (zrt rts es).length ≤ 4096 := Nat.le_trans (zrt_len hl) (hb.len hR)
  generalize zrt rts es = fs at ok hv hzl
  refine ⟨_, rfl, le_line (by rw [List.length_map]; omega), ?_⟩
  show lcL _ [3, 4] _ _ _ _ (fs.map pairD) [] [.sh (num w), .sh (.int 2), .sh (.lst (fs.map pairD)), .un, .un, .un]
  refine lcL_pairs (f := fun _ => none) trivial (fun p hp K1 hK => ?_) ?_
  · refine ⟨_, _, _, rfl, rfl, fMod_nat (b := 2) (by decide), _, _, _, rfl, rfl, fNe_int _ _, _, rfl, ?_⟩
    rw [(ok p hp).2.1]
    exact hK
  · rw [fm_none]
    refine ⟨len_line rfl, _, _, _, rfl, rfl, fNe_ints [] [], _, rfl, ?_⟩
    refine ⟨_, rfl, le_line (by rw [List.length_map]; omega), ?_⟩
    show lcL _ [3, 4] _ _ _ _ (fs.map pairD) [] [.sh (num w), .sh (.int 2), .sh (.lst (fs.map pairD)), .un, .un, .un]
    refine lcL_pairs (f := fun p => some (pairD (half p))) trivial (fun p hp K1 hK => ?_) ?_
    · exact ⟨_, _, _, rfl, rfl, fFdiv_nat (b := 2) (by decide) (by decide), len_line rfl, hK⟩
    · have e1 : ([] ++ fs.filterMap fun p => some (pairD (half p))) = (fs.map half).map pairD := by
        rw [List.nil_append, fm_some, List.map_map] <;> rfl
      rw [e1]
      have hwf : WF R (fs.map half) := ⟨fun q hq => by
        obtain ⟨p, hp, rfl⟩ := List.mem_map.mp hq
        exact ⟨(ok p hp).1, (ok p hp).2.2⟩, by rw [List.length_map]; exact hzl⟩
      refine ⟨_, _, rfl, rfl, Nat.zero_le _, by rw [List.drop_zero, List.length_map]; exact le_line (by have := hwf.ln; omega), R, _, rfl, hwf, hQ _ hwf ?_⟩
      have h3 := val_half fun p hp => (ok p hp).2.1
      rw [hv] at h3
      exact sq_inj h3
/-! ### greatest_root -/
theorem gr_loop {X0 X1 : Ent} {Q : DEnv → Prop} {rt : D → Prop} {t5 : Ent} : ∀ (fs : List (Nat × Nat)) (G : Nat) (t3 t4 : Ent), (∀ G' t3 t4, G' ∣ G → (∀ p ∈ fs, G' ∣ p.2) → (2 ∣ G → (∀ p ∈ fs, p.2 % 2 = 0) → 2 ∣ G') → Q [X0, X1, .sh (.int (G' : Nat)), t3, t4, t5]) →
    forL (fun _ => True) (gTupD 2 (gConsD (gN 3) (gConsD (gN 4) gNilD))) (dAsg (dApp sp_common_divisor (aCons (dVar 4) (aCons (dVar 2) aNil))) (gN 2)) { nx := Q, rt := rt } (fs.map pairD) [X0, X1, .sh (.int (G : Nat)), t3, t4, t5]
  | [], G, t3, t4, hQ => ⟨trivial, hQ G t3 t4 (Nat.dvd_refl G) (fun _ h => nomatch h) fun h _ => h⟩
  | p :: fs, G, t3, t4, hQ => by
    refine ⟨trivial, rfl, rfl, p.2, G, rfl, ?_⟩
    refine gr_loop fs (Nat.gcd p.2 G) _ _ fun G' t3 t4 h1 h2 h3 => hQ G' t3 t4 (Nat.dvd_trans h1 (Nat.gcd_dvd_right _ _)) (fun q hq => ?_) fun g1 g2 => ?_
    · rcases List.mem_cons.mp hq with rfl | hq
      · exact Nat.dvd_trans h1 (Nat.gcd_dvd_left _ _)
      · exact h2 q hq
    · exact h3 (Nat.dvd_gcd (Nat.dvd_of_mod_eq_zero (g2 p List.mem_cons_self)) g1) fun q hq => g2 q (List.mem_cons_of_mem _ hq)
theorem pow_le_val : ∀ {fs : List (Nat × Nat)}, (∀ p ∈ fs, 2 ≤ p.1) → ∀ p ∈ fs, 2 ^ p.2 ≤ val fs
  | q :: fs, h, p, hp => by
    have pos : ∀ {gs : List (Nat × Nat)}, (∀ p ∈ gs, 2 ≤ p.1) → 0 < val gs := by
      intro gs
      induction gs with
      | nil => exact fun _ => Nat.one_pos
      | cons g gs ih => exact fun hg => Nat.mul_pos (Nat.pow_pos (by have := hg g List.mem_cons_self; omega)) (ih fun x hx => hg x (List.mem_cons_of_mem _ hx))
    have h1 := h q List.mem_cons_self
    have h2 : ∀ p ∈ fs, 2 ≤ p.1 := fun x hx => h x (List.mem_cons_of_mem _ hx)
    show 2 ^ p.2 ≤ q.1 ^ q.2 * val fs
    rcases List.mem_cons.mp hp with rfl | hp
    · exact Nat.le_trans (Nat.pow_le_pow_left h1 _) (Nat.le_mul_of_pos_right _ (pos h2))
    · exact Nat.le_trans (pow_le_val h2 p hp) (Nat.le_mul_of_pos_left _ (Nat.pow_pos (by omega)))
theorem does_greatest_root : Does 6 rd_greatest_root sp_greatest_root := by
  rintro ds Q ⟨R, w, s, k, rfl, hR, hw, hs, hne, hk, hk2, hQ⟩
  have hE : w.isEmpty = false := by
    cases w with
    | nil => exact absurd rfl hne
    | cons p w => rfl
  have hv1 : 1 < val w := by
    cases w with
    | nil => exact absurd rfl hne
    | cons p w =>
      have h1 := pow_le_val (fs := p :: w) (fun q hq => (hw.ok q hq).1.lo) p List.mem_cons_self
      have h2 : 2 ^ 1 ≤ 2 ^ p.2 := Nat.pow_le_pow_right (by decide) (hw.ok p List.mem_cons_self).2
      omega
  refine ⟨w, rfl, _, _, _, rfl, rfl, len_line rfl, _, _, _, rfl, rfl, fEq_tup0 w, _, rfl, ?_⟩
  rw [hE]
  refine ⟨R, w, rfl, hR, hw, fun bs es rts hb hl he h1 h2 => ?_⟩
  have ok := zrt_ok hb.pc hb.ok hl h2 h1 ⟨s, by rw [he, hs]⟩
  have hv : val (zrt rts es) = val w := by rw [val_zrt hl h2, he]
  have hzl : (zrt rts es).length ≤ 4096 := Nat.le_trans (zrt_len hl) (hb.len hR)
  generalize zrt rts es = fs at ok hv hzl
  refine ⟨len_line rfl, rfl, rfl, _, rfl, ?_⟩
  refine gr_loop fs 0 _ _ fun G t3 t4 _ g2 g3 => ?_
  have gev : 2 ∣ G := g3 (Nat.dvd_zero 2) fun p hp => (ok p hp).2.1
  have hfn : fs ≠ [] := fun z => by
    rw [z] at hv
    have : val [] = 1 := rfl
    omega
  obtain ⟨p0, hp0⟩ := List.exists_mem_of_ne_nil fs hfn
  have p0b := ok p0 hp0
  have hG0 : 0 < G := Nat.pos_of_dvd_of_pos (g2 p0 hp0) (by omega)
  have hGk : G < 2 ^ 1000 := by
    have a1 := pow_le_val (fun q hq => (ok q hq).1.lo) p0 hp0
    rw [hv] at a1
    have a2 : 2 ^ p0.2 < 2 ^ k := Nat.lt_of_le_of_lt a1 hk
    have a3 := (Nat.pow_lt_pow_iff_right (by decide : 1 < 2)).mp a2
    have a4 := Nat.le_of_dvd (by omega) (g2 p0 hp0)
    omega
  have fd : ∀ e : Nat, fFdiv (.int e) (.int G) = some (.int ((e / G : Nat) : Int)) := fun e => by
    rw [fFdiv_pos (by omega) (by rw [Int.natAbs_natCast]; exact Nat.lt_of_lt_of_le hGk (Nat.pow_le_pow_right (by decide) (by decide)))]
    congr 1
  refine ⟨_, rfl, le_line (by rw [List.length_map]; omega), ?_⟩
  show lcL _ [3, 4] _ _ _ _ (fs.map pairD) [] [.sh (num w), .sh (.lst (fs.map pairD)), .sh (.int G), .un, .un, .un]
  refine lcL_pairs (f := fun p => some (pairD (p.1, p.2 / G))) trivial (fun p hp K1 hK => ?_) ?_
  · exact ⟨_, _, _, rfl, rfl, fd p.2, len_line rfl, hK⟩
  · have e1 : ([] ++ fs.filterMap fun p => some (pairD (p.1, p.2 / G))) = (fs.map fun p => (p.1, p.2 / G)).map pairD := by
      rw [List.nil_append, fm_some, List.map_map] <;> rfl
    rw [e1]
    have hwf : WF R (fs.map fun p => (p.1, p.2 / G)) := ⟨fun q hq => by
      obtain ⟨p, hp, rfl⟩ := List.mem_map.mp hq
      have := ok p hp
      exact ⟨this.1, Nat.div_pos (Nat.le_of_dvd (by omega) (g2 p hp)) hG0⟩, by rw [List.length_map]; exact hzl⟩
    refine ⟨_, _, rfl, rfl, Nat.zero_le _, by rw [List.drop_zero, List.length_map]; exact le_line (by have := hwf.ln; omega), R, _, rfl, hwf, len_line rfl, ?_⟩
    have := hQ (fs.map fun p => (p.1, p.2 / G)) (G / 2)
    rw [Nat.mul_div_cancel' gev] at this
    exact this
/-! ### coprime_base, members -/
theorem lcL_nums {C : DEnv → Prop} {X0 X1 : Ent} (hC : ∀ e, C e) : ∀ {ws : List (List (Nat × Nat))} {acc : List D} {Q : List D → DEnv → Prop}, Q (acc ++ ws.map wrD) [X0, X1, .un] →
    lcL C [2] (gN 2) dYes (dFld "Number" "powers" (dVar 2)) Q (ws.map num) acc [X0, X1, .un]
  | [], acc, Q, hQ => ⟨hC _, by simpa using hQ⟩
  | w :: ws, acc, Q, hQ => by
    refine ⟨hC _, _, _, _, rfl, rfl, ?_⟩
    refine lcL_nums hC ?_
    have e : acc ++ [wrD w] ++ ws.map wrD = acc ++ (w :: ws).map wrD := by simp
    rw [e]
    exact hQ
theorem does_coprime_base : Does 3 rd_coprime_base sp_cpb := by
  rintro ds Q ⟨R, ws, rfl, hl, hw, hQ⟩
  refine ⟨ws, 0, rfl, by omega, by omega, _, rfl, le_line (by rw [List.length_map]; omega), ?_⟩
  refine lcL_nums (fun _ => trivial) ?_
  rw [List.nil_append]
  exact ⟨_, _, rfl, rfl, Nat.zero_le _, le_line (by rw [List.drop_zero, List.length_map]; omega), R, ws, rfl, hl, hw, hQ⟩
theorem does_Number_contains : Does 2 rd_Number_contains sp_contains := by
  rintro ds Q ⟨R, w, b, rfl, hR, hw, ho, hQ⟩
  have t1 : decide ((1 : Int) ≤ (b : Int) ∧ (b : Int) ≤ 100000000000000000000) = true := decide_eq_true ⟨by have := ho.lo; omega, by have := ho.hi; omega⟩
  have hw1 : WF R [(b, 1)] := ⟨fun p hp => by rw [List.mem_singleton.mp hp]; exact ⟨ho, Nat.le_refl 1⟩, by simp⟩
  refine .inr ⟨_, _, _, rfl, ?_⟩
  rw [t1]
  refine ⟨_, _, rfl, rfl, _, _, _, rfl, rfl, fGt_nat b 1, _, rfl, ?_⟩
  rw [decide_eq_true (show 1 < b from ho.lo)]
  refine ⟨len_line rfl, Nat.zero_le _, len_line rfl, R, [(b, 1)], rfl, hw1, R, [(b, 1)], w, rfl, hR, hw1, hw, ?_⟩
  have e1 : val [(b, 1)] = b := by
    show b ^ 1 * 1 = b
    rw [Nat.pow_one, Nat.mul_one]
  rw [e1]
  exact hQ
end DL
set_option Elab.async false
set_option linter.all false
set_option maxRecDepth 100000
set_option maxHeartbeats 4000000
set_option exponentiation.threshold 10000
/-! S17: k17's own helpers: promises, readings -/
namespace DL
open PySem PySem.Spec L2 DM
def gps : List Nat := [1000000007, 1000000009, 2147483647, 4294967291, 9999999929, 9999999943, 9999999967]
def gR : Nat := 1000000007 * 1000000009 * 2147483647 * 4294967291 * 9999999929 * 9999999943 * 9999999967
structure GP (ps : List Nat) : Prop where
  nd : ps.Nodup
  mem : ∀ p ∈ ps, p ∈ gps
/-- a drawn writing, its exponents -/
structure Wr (ps : List Nat) (w : List (Nat × Nat)) (es : List Nat) : Prop where
  ok : ∀ p ∈ w, (∃ a ∈ ps, ∃ b ∈ ps, p.1 = a * b) ∧ 1 ≤ p.2 ∧ p.2 ≤ 10 ^ 30
  ln : w.length ≤ 3
  ne : w ≠ []
  el : es.length = ps.length
  vl : val w = pp ps es
def rowW (r : List (Nat × Nat) × List Nat) : D := .tup [.tup (r.1.map pairD), .lst (intsD r.2)]
def sp_law_whole : DSp := fun ds Q _ => ∃ i lo : Int, ds = [.int i, .int lo] ∧ Q (.bl (decide (lo ≤ i)))
def sp_law_is : DSp := fun ds Q _ => ∃ (w : List (Nat × Nat)) (ps es : List Nat), ds = [num w, .lst (intsD ps), .lst (intsD es)] ∧ GP ps ∧ WF gR w ∧ es.length = ps.length ∧ val w = pp ps es ∧ Q (.bl true)
def sp_law_great : DSp := fun ds Q _ => ds = [] ∧ Q (.lst (intsD gps))
def sp_law_written : DSp := fun ds Q _ => ∃ (ps : List Nat) (m : Nat), ds = [.src, .lst (intsD ps), .int m] ∧ GP ps ∧ 0 < ps.length ∧ 1 ≤ m ∧ m ≤ 3 ∧ ∀ w es, Wr ps w es → Q (rowW (w, es))
def sp_law_num17 : DSp := fun ds Q _ => ∃ w, ds = [.tup (w.map pairD)] ∧ WX w ∧ w ≠ [] ∧ Q (num w)
def sp_law_pair_right : DSp := fun ds Q _ => ∃ (ps es fs : List Nat) (w1 w2 : List (Nat × Nat)), ds = [.lst (intsD ps), num w1, num w2, .lst (intsD es), .lst (intsD fs)] ∧ GP ps ∧ WF gR w1 ∧ WF gR w2 ∧ es.length = ps.length ∧ fs.length = ps.length ∧ val w1 = pp ps es ∧ val w2 = pp ps fs ∧ Q (.bl true)
/-- what a coprime base of the numbers with rows of exponents does at each prime -/
structure BsR (ps bs : List Nat) (rows : List (List Nat)) : Prop where
  pc : PC bs
  srt : bs.Pairwise (· ≤ ·)
  hit : ∀ k (h : k < ps.length), (∃ b ∈ bs, ps[k] ∣ b) ↔ ∃ es ∈ rows, 0 < es.getD k 0
  ne : ∀ b ∈ bs, ∃ p ∈ ps, p ∣ b
  ln : bs.length ≤ 10000
def sp_law_base_right : DSp := fun ds Q _ => ∃ (ps bs : List Nat) (rows : List (List Nat)), ds = [.lst (intsD ps), .tup (intsD bs), .lst (rows.map fun es => D.lst (intsD es))] ∧ GP ps ∧ rows ≠ [] ∧ rows.length ≤ 10 ∧ (∀ es ∈ rows, es.length = ps.length) ∧ BsR ps bs rows ∧ Q (.bl true)
def sp_law_right : DSp := fun ds Q _ => ds = [.src] ∧ Q (.bl true)
def sp_law : DSp := fun ds Q _ => ∃ ns : List Int, ds = [.klst (ns.map D.int)] ∧ ns.length ≤ 63 ∧ Q (.bl true)
/-- _law_great: slots  -/
def rd_law_great : TDS := (dRet (dNew (fLst (aCons (dC (.int 1000000007)) (aCons (dC (.int 1000000009)) (aCons (dC (.int 2147483647)) (aCons (dC (.int 4294967291)) (aCons (dC (.int 9999999929)) (aCons (dC (.int 9999999943)) (aCons (dC (.int 9999999967)) aNil))))))))))
/-- _law_whole: slots _law_thing, _law_low -/
def rd_law_whole (K : PySem.W.Frag) (ca : Str → Addr) : TDS := (dRet (dAndV (dCB (fIsi K ca) (aoCons (oSlot 0) (aoCons (oVal (dC (.ty "int"))) aoNil))) (dAndV (dNotV (dCB (fIsi K ca) (aoCons (oSlot 0) (aoCons (oVal (dC (.ty "bool"))) aoNil)))) (dOp fGe (oSlot 0) (oSlot 1)))))
/-- _law_is: slots _law_thing, _law_primes, _law_exps, _law_found, _law_pair, _law_left, _law_k, _law_prime -/
def rd_law_is (K : PySem.W.Frag) (ca : Str → Addr) : TDS := (dSeq (dIfS (dOr (dNot (dTru (oVal (dCB (fIsi K ca) (aoCons (oSlot 0) (aoCons (oVal (dC (.cls "Number"))) aoNil)))))) (dNot (dTru (oVal (dCB (fIsi K ca) (aoCons (oVal (dFld "Number" "powers" (dVar 0))) (aoCons (oVal (dC (.ty "tuple"))) aoNil))))))) (dRet (dC (.bl false))) dNext) (dSeq (dOwn (fRep (oVal (dNew (fLst (aCons (dC (.int 0)) aNil)))) (oVal (dCB fLen (aoCons (oSlot 1) aoNil)))) 3) (dSeq (dFor (iSeqD (dFld "Number" "powers" (dVar 0))) (gN 4) (dSeq (dIfS (dOr (dNot (dTru (oVal (dCB (fIsi K ca) (aoCons (oSlot 4) (aoCons (oVal (dC (.ty "tuple"))) aoNil)))))) (dOr (dTest (dOp fNe (oVal (dCB fLen (aoCons (oSlot 4) aoNil))) (oVal (dC (.int 2))))) (dOr (dNot (dTru (oVal (dApp sp_law_whole (aCons (dOp fIx (oSlot 4) (oVal (dC (.int 0)))) (aCons (dC (.int 2)) aNil)))))) (dNot (dTru (oVal (dApp sp_law_whole (aCons (dOp fIx (oSlot 4) (oVal (dC (.int 1)))) (aCons (dC (.int 1)) aNil))))))))) (dRet (dC (.bl false))) dNext) (dSeq (dAsg (dIf (dTest (dOp fLe (oVal (dOp fIx (oSlot 4) (oVal (dC (.int 0))))) (oVal (dOp fPow (oVal (dC (.int 10))) (oVal (dC (.int 20))))))) (dOp fIx (oSlot 4) (oVal (dC (.int 0)))) (dC (.int 0))) (gN 5)) (dSeq (dFor (iEnumD (aCons (dVar 1) aNil)) (gTupD 2 (gConsD (gN 6) (gConsD (gN 7) gNilD))) (dWhile (dAnd (dTest (dOp fGt (oSlot 5) (oVal (dC (.int 0))))) (dTest (dOp fEq (oVal (dOp fMod (oSlot 5) (oSlot 7))) (oVal (dC (.int 0)))))) (dAsg (dTup (aCons (dOp fFdiv (oSlot 5) (oSlot 7)) (aCons (dOp fAdd (oVal (dOp fIx (oSlot 3) (oSlot 6))) (oVal (dOp fIx (oSlot 4) (oVal (dC (.int 1)))))) aNil))) (gTupD 2 (gConsD (gN 5) (gConsD (gSetI 3 (oSlot 6)) gNilD)))))) (dIfS (dTest (dOp fNe (oSlot 5) (oVal (dC (.int 1))))) (dRet (dC (.bl false))) dNext))))) (dRet (dOp fEq (oSlot 3) (oVal (dNew (fCB fListB (aoCons (oSlot 2) aoNil)))))))))
/-- _law_written: slots _law_source_here, _law_primes, _law_many, _law_powers, _law_exps, _law_turn, _law_high, _law_one, _law_other -/
def rd_law_written : TDS := (dSeq (dOwn2 (fLst aNil) (fRep (oVal (dNew (fLst (aCons (dC (.int 0)) aNil)))) (oVal (dCB fLen (aoCons (oSlot 1) aoNil)))) 3 4) (dSeq (dFor (iRange1 (aoCons (oSlot 2) aoNil)) (gN 5) (dSeq (dPair (aCons (dApp sp_law_draw (aCons (dVar 0) (aCons (dCB fLen (aoCons (oSlot 1) aoNil)) aNil))) (aCons (dApp sp_law_draw (aCons (dVar 0) (aCons (dCB fLen (aoCons (oSlot 1) aoNil)) aNil))) aNil)) 7 8) (dSeq (dAsg (dOp fIx (oVal (dNew (fLst (aCons (dC (.int 1)) (aCons (dOp fAdd (oVal (dC (.int 1))) (oVal (dApp sp_law_draw (aCons (dVar 0) (aCons (dC (.int 5)) aNil))))) (aCons (dOp fAdd (oVal (dC (.int 1))) (oVal (dApp sp_law_draw (aCons (dVar 0) (aCons (dOp fPow (oVal (dC (.int 10))) (oVal (dC (.int 30)))) aNil))))) aNil)))))) (oVal (dApp sp_law_draw (aCons (dVar 0) (aCons (dC (.int 3)) aNil))))) (gN 6)) (dSeq (dExpr (dMeth 3 fAppend (aCons (dTup (aCons (dOp fMul (oVal (dOp fIx (oSlot 1) (oSlot 7))) (oVal (dOp fIx (oSlot 1) (oSlot 8)))) (aCons (dVar 6) aNil))) aNil))) (dSeq (dAsg (dOp fAdd (oVal (dOp fIx (oSlot 4) (oSlot 7))) (oSlot 6)) (gSetI 4 (oSlot 7))) (dAsg (dOp fAdd (oVal (dOp fIx (oSlot 4) (oSlot 8))) (oSlot 6)) (gSetI 4 (oSlot 8)))))))) (dRet (dTup (aCons (dCB fTupleB (aoCons (oSlot 3) aoNil)) (aCons (dVar 4) aNil))))))
/-- _law_number: slots _law_powers, _law_words, _law_base, _law_many -/
def rd_law_num17 : TDS := (dSeq (dAsg (dNew (fLc (iSeqD (dVar 0)) [2, 3] (gTupD 2 (gConsD (gN 2) (gConsD (gN 3) gNilD))) dYes (dOp fAdd (oVal (dCB fStrB (aoCons (oSlot 2) aoNil))) (oVal (dIf (dTest (dOp fGt (oSlot 3) (oVal (dC (.int 1))))) (dOp fAdd (oVal (dC (.str ("^" : Str)))) (oVal (dCB fStrB (aoCons (oSlot 3) aoNil)))) (dC (.str ("" : Str)))))))) (gN 1)) (dRet (dCMeth "Number" sp_Number_read (aCons (dJoin (oVal (dC (.str ("*" : Str)))) (oSlot 1)) aNil))))
/-- _law_pair_right: slots _law_primes, _law_number_here, _law_mate, _law_one, _law_other, _law_pairs, _law_least, _law_most, _law_high, _law_low, _law_inner, _law_outer, _law_due -/
def rd_law_pair_right : TDS := (dSeq (dAsg (dNew (fListZip (aCons (dVar 3) (aCons (dVar 4) aNil)))) (gN 5)) (dSeq (dPair (aCons (dNew (fLc (iSeqD (dVar 5)) [8, 9] (gTupD 2 (gConsD (gN 8) (gConsD (gN 9) gNilD))) dYes (dCB fMinB (aoCons (oSlot 8) (aoCons (oSlot 9) aoNil))))) (aCons (dNew (fLc (iSeqD (dVar 5)) [8, 9] (gTupD 2 (gConsD (gN 8) (gConsD (gN 9) gNilD))) dYes (dCB fMaxB (aoCons (oSlot 8) (aoCons (oSlot 9) aoNil))))) aNil)) 6 7) (dSeq (dIfS (dOr (dNot (dTru (oVal (dApp sp_law_is (aCons (dOwnOp "Number" sp_and (oSlot 1) (oSlot 2)) (aCons (dVar 0) (aCons (dVar 6) aNil))))))) (dNot (dTru (oVal (dApp sp_law_is (aCons (dApp sp_share (aCons (dVar 2) (aCons (dVar 1) aNil))) (aCons (dVar 0) (aCons (dVar 6) aNil)))))))) (dRet (dC (.bl false))) dNext) (dSeq (dIfS (dOr (dNot (dTru (oVal (dApp sp_law_is (aCons (dOwnOp "Number" sp_or (oSlot 1) (oSlot 2)) (aCons (dVar 0) (aCons (dVar 7) aNil))))))) (dNot (dTru (oVal (dApp sp_law_is (aCons (dApp sp_meet (aCons (dVar 1) (aCons (dVar 2) aNil))) (aCons (dVar 0) (aCons (dVar 7) aNil)))))))) (dRet (dC (.bl false))) dNext) (dSeq (dIfS (dNot (dTru (oVal (dApp sp_law_is (aCons (dOwnOp "Number" sp_mul (oSlot 1) (oSlot 2)) (aCons (dVar 0) (aCons (dNew (fLc (iSeqD (dVar 5)) [8, 9] (gTupD 2 (gConsD (gN 8) (gConsD (gN 9) gNilD))) dYes (dOp fAdd (oSlot 8) (oSlot 9)))) aNil))))))) (dRet (dC (.bl false))) dNext) (dSeq (dIfS (dNot (dTru (oVal (dApp sp_law_is (aCons (dOwnOp "Number" sp_floordiv (oVal (dOwnOp "Number" sp_or (oSlot 1) (oSlot 2))) (oSlot 2)) (aCons (dVar 0) (aCons (dNew (fLc (iZipD (aCons (dVar 7) (aCons (dVar 4) aNil))) [8, 9] (gTupD 2 (gConsD (gN 8) (gConsD (gN 9) gNilD))) dYes (dOp fSub (oSlot 8) (oSlot 9)))) aNil))))))) (dRet (dC (.bl false))) dNext) (dSeq (dAsg (dApp sp_parted (aCons (dVar 1) (aCons (dVar 2) aNil))) (gTupD 2 (gConsD (gN 10) (gConsD (gN 11) gNilD)))) (dSeq (dIfS (dNot (dTru (oVal (dApp sp_law_is (aCons (dVar 10) (aCons (dVar 0) (aCons (dNew (fLc (iSeqD (dVar 5)) [8, 9] (gTupD 2 (gConsD (gN 8) (gConsD (gN 9) gNilD))) dYes (dIf (dTest (dOp fGt (oSlot 9) (oVal (dC (.int 0))))) (dVar 8) (dC (.int 0))))) aNil))))))) (dRet (dC (.bl false))) dNext) (dSeq (dIfS (dNot (dTru (oVal (dApp sp_law_is (aCons (dVar 11) (aCons (dVar 0) (aCons (dNew (fLc (iSeqD (dVar 5)) [8, 9] (gTupD 2 (gConsD (gN 8) (gConsD (gN 9) gNilD))) dYes (dIf (dTest (dOp fGt (oSlot 9) (oVal (dC (.int 0))))) (dC (.int 0)) (dVar 8)))) aNil))))))) (dRet (dC (.bl false))) dNext) (dSeq (dAsg (dNew (fLst (aCons (dCB fAllB (aoCons (oVal (dNew (fLc (iSeqD (dVar 5)) [8, 9] (gTupD 2 (gConsD (gN 8) (gConsD (gN 9) gNilD))) dYes (dOp fLe (oSlot 8) (oSlot 9))))) aoNil)) (aCons (dOp fEq (oSlot 3) (oSlot 4)) aNil)))) (gN 12)) (dRet (dOp fEq (oVal (dNew (fLst (aCons (dApp sp_divides (aCons (dVar 1) (aCons (dVar 2) aNil))) (aCons (dOwnOp "Number" sp_eq (oSlot 1) (oSlot 2)) aNil))))) (oSlot 12)))))))))))))
/-- _law_base_right: slots _law_primes, _law_told, _law_rows, _law_parts, _law_item, _law_k, _law_used, _law_exps, _law_spread, _law_part -/
def rd_law_base_right : TDS := (dSeq (dAsg (dNew (fLc (iSeqD (dVar 1)) [4] (gN 4) dYes (dNew (fLc (iRange1 (aoCons (oVal (dCB fLen (aoCons (oSlot 0) aoNil))) aoNil)) [5] (gN 5) (dTest (dOp fEq (oVal (dOp fMod (oSlot 4) (oVal (dOp fIx (oSlot 0) (oSlot 5))))) (oVal (dC (.int 0))))) (dVar 5))))) (gN 3)) (dSeq (dAsg (dNew (fLc (iRange1 (aoCons (oVal (dCB fLen (aoCons (oSlot 0) aoNil))) aoNil)) [5] (gN 5) (dTest (dOp fGt (oVal (dCB fMaxB (aoCons (oVal (dNew (fLc (iSeqD (dVar 2)) [7] (gN 7) dYes (dOp fIx (oSlot 7) (oSlot 5))))) aoNil))) (oVal (dC (.int 0))))) (dVar 5))) (gN 6)) (dSeq (dAsg (dNew (fLst aNil)) (gN 8)) (dSeq (dFor (iSeqD (dVar 3)) (gN 9) (dAsg (dNew (fCat (oSlot 8) (oSlot 9))) (gN 8))) (dRet (dAndV (dOp fEq (oVal (dNew (fCB fSorted (aoCons (oSlot 8) aoNil)))) (oSlot 6)) (dAndV (dOp fNotIn (oVal (dNew (fLst aNil))) (oSlot 3)) (dOp fEq (oVal (dNew (fCB fListB (aoCons (oSlot 1) aoNil)))) (oVal (dNew (fSortSet (oSlot 1))))))))))))
/-- _law_right: slots _law_source_here, _law_primes, _law_rows, _law_turn, _law_numbers, _law_every, _law_powers, _law_exps, _law_k, _law_j, _law_base, _law_spots, _law_square, _law_due, _law_at -/
def rd_law_right : TDS := (dSeq (dAsg (dNew (fSl (oVal (dApp sp_law_mixed (aCons (dVar 0) (aCons (dApp0 sp_law_great) aNil)))) dNoPart (dPart (oVal (dOp fAdd (oVal (dC (.int 3))) (oVal (dApp sp_law_draw (aCons (dVar 0) (aCons (dC (.int 4)) aNil))))))))) (gN 1)) (dSeq (dAsg (dNew (fLc (iRange1 (aoCons (oVal (dC (.int 3))) aoNil)) [3] (gN 3) dYes (dApp sp_law_written (aCons (dVar 0) (aCons (dVar 1) (aCons (dOp fAdd (oVal (dC (.int 1))) (oVal (dApp sp_law_draw (aCons (dVar 0) (aCons (dC (.int 3)) aNil))))) aNil)))))) (gN 2)) (dSeq (dPair (aCons (dNew (fLc (iSeqD (dVar 2)) [6, 7] (gTupD 2 (gConsD (gN 6) (gConsD (gN 7) gNilD))) dYes (dApp sp_law_num17 (aCons (dVar 6) aNil)))) (aCons (dNew (fLc (iSeqD (dVar 2)) [6, 7] (gTupD 2 (gConsD (gN 6) (gConsD (gN 7) gNilD))) dYes (dVar 7))) aNil)) 4 5) (dSeq (dFor (iRange1 (aoCons (oVal (dC (.int 3))) aoNil)) (gN 8) (dSeq (dAsg (dOp fMod (oVal (dOp fAdd (oSlot 8) (oVal (dC (.int 1))))) (oVal (dC (.int 3)))) (gN 9)) (dSeq (dIfS (dNot (dTru (oVal (dApp sp_law_pair_right (aCons (dVar 1) (aCons (dOp fIx (oSlot 4) (oSlot 8)) (aCons (dOp fIx (oSlot 4) (oSlot 9)) (aCons (dOp fIx (oSlot 5) (oSlot 8)) (aCons (dOp fIx (oSlot 5) (oSlot 9)) aNil))))))))) (dRet (dC (.bl false))) dNext) (dSeq (dAsg (dOp fIx (oVal (dOp fIx (oVal (dOp fIx (oVal (dOp fIx (oSlot 2) (oSlot 8))) (oVal (dC (.int 0))))) (oVal (dC (.int 0))))) (oVal (dC (.int 0)))) (gN 10)) (dSeq (dAsg (dNew (fLc (iRange1 (aoCons (oVal (dCB fLen (aoCons (oSlot 1) aoNil))) aoNil)) [14] (gN 14) (dTest (dOp fEq (oVal (dOp fMod (oSlot 10) (oVal (dOp fIx (oSlot 1) (oSlot 14))))) (oVal (dC (.int 0))))) (dVar 14))) (gN 11)) (dSeq (dAsg (dOp fAdd (oVal (dCB fIntB (aoCons (oVal (dOp fEq (oVal (dCB fLen (aoCons (oSlot 11) aoNil))) (oVal (dC (.int 1))))) aoNil))) (oVal (dC (.int 1)))) (gN 12)) (dSeq (dAsg (dCB fMinB (aoCons (oVal (dNew (fLc (iSeqD (dVar 11)) [14] (gN 14) dYes (dOp fFdiv (oVal (dOp fIx (oVal (dOp fIx (oSlot 5) (oSlot 9))) (oSlot 14))) (oSlot 12))))) aoNil)) (gN 13)) (dSeq (dIfS (dOr (dTest (dOp fNe (oVal (dApp sp_exponent_in (aCons (dOp fIx (oSlot 4) (oSlot 9)) (aCons (dVar 10) aNil)))) (oSlot 13))) (dTest (dOp fNe (oVal (dOwnIn "Number" sp_contains (dVar 10) (oVal (dOp fIx (oSlot 4) (oSlot 9))))) (oVal (dOp fGt (oSlot 13) (oVal (dC (.int 0)))))))) (dRet (dC (.bl false))) dNext) (dSeq (dIfS (dNot (dTru (oVal (dApp sp_law_is (aCons (dApp sp_root (aCons (dOwnOp "Number" sp_mul (oVal (dOp fIx (oSlot 4) (oSlot 8))) (oVal (dOp fIx (oSlot 4) (oSlot 8)))) (aCons (dC (.int 2)) aNil))) (aCons (dVar 1) (aCons (dOp fIx (oSlot 5) (oSlot 8)) aNil))))))) (dRet (dC (.bl false))) dNext) (dIfS (dTest (dOp fNe (oVal (dOp fMod (oVal (dOp fIx (oVal (dApp sp_greatest_root (aCons (dOwnOp "Number" sp_mul (oVal (dOp fIx (oSlot 4) (oSlot 8))) (oVal (dOp fIx (oSlot 4) (oSlot 8)))) aNil))) (oVal (dC (.int 1))))) (oVal (dC (.int 2))))) (oVal (dC (.int 0))))) (dRet (dC (.bl false))) dNext)))))))))) (dRet (dApp sp_law_base_right (aCons (dVar 1) (aCons (dApp sp_coprime_base (aCons (dOp fIx (oSlot 4) (oVal (dC (.int 0)))) (aCons (dOp fIx (oSlot 4) (oVal (dC (.int 1)))) (aCons (dOp fIx (oSlot 4) (oVal (dC (.int 2)))) aNil)))) (aCons (dVar 5) aNil)))))))))
/-- law: slots _law_script, _law_great_here, _law_one, _law_other, _law_told, _law_k -/
def rd_law : TDS := (dSeq (dAsg (dApp0 sp_law_great) (gN 1)) (dSeq (dAsg (dCMeth "Number" sp_Number_of (aCons (dOp fMul (oVal (dOp fIx (oSlot 1) (oVal (dC (.int 4))))) (oVal (dOp fIx (oSlot 1) (oVal (dC (.int 5)))))) aNil)) (gN 2)) (dSeq (dAsg (dCMeth "Number" sp_Number_of (aCons (dOp fMul (oVal (dOp fIx (oSlot 1) (oVal (dC (.int 5))))) (oVal (dOp fIx (oSlot 1) (oVal (dC (.int 6)))))) aNil)) (gN 3)) (dSeq (dIfS (dNot (dTru (oVal (dApp sp_law_is (aCons (dOwnOp "Number" sp_and (oSlot 2) (oSlot 3)) (aCons (dVar 1) (aCons (dNew (fLst (aCons (dC (.int 0)) (aCons (dC (.int 0)) (aCons (dC (.int 0)) (aCons (dC (.int 0)) (aCons (dC (.int 0)) (aCons (dC (.int 1)) (aCons (dC (.int 0)) aNil))))))))) aNil))))))) (dRet (dC (.bl false))) dNext) (dSeq (dIfS (dTest (dOp fNe (oVal (dApp sp_coprime_base (aCons (dVar 2) (aCons (dVar 3) aNil)))) (oVal (dTup (aCons (dOp fIx (oSlot 1) (oVal (dC (.int 4)))) (aCons (dOp fIx (oSlot 1) (oVal (dC (.int 5)))) (aCons (dOp fIx (oSlot 1) (oVal (dC (.int 6)))) aNil))))))) (dRet (dC (.bl false))) dNext) (dSeq (dAsg (dApp sp_coprime_base (aCons (dVar 2) (aCons (dCMeth "Number" sp_Number_of (aCons (dOp fIx (oSlot 1) (oVal (dC (.int 0)))) aNil)) aNil))) (gN 4)) (dSeq (dIfS (dNot (dTru (oVal (dApp sp_law_base_right (aCons (dVar 1) (aCons (dVar 4) (aCons (dNew (fLst (aCons (dNew (fLst (aCons (dC (.int 0)) (aCons (dC (.int 0)) (aCons (dC (.int 0)) (aCons (dC (.int 0)) (aCons (dC (.int 1)) (aCons (dC (.int 1)) (aCons (dC (.int 0)) aNil))))))))) (aCons (dNew (fCat (oVal (dNew (fLst (aCons (dC (.int 1)) aNil)))) (oVal (dNew (fRep (oVal (dNew (fLst (aCons (dC (.int 0)) aNil)))) (oVal (dC (.int 6)))))))) aNil)))) aNil))))))) (dRet (dC (.bl false))) dNext) (dRet (dCB fAllB (aoCons (oVal (dNew (fLc (iRange1 (aoCons (oVal (dCB fMaxB (aoCons (oVal (dC (.int 2))) (aoCons (oVal (dCB fMinB (aoCons (oVal (dCB fLen (aoCons (oSlot 0) aoNil))) (aoCons (oVal (dC (.int 4))) aoNil)))) aoNil)))) aoNil)) [5] (gN 5) dYes (dApp sp_law_right (aCons (dApp sp_law_source (aCons (dApp sp_law_cell (aCons (dVar 0) (aCons (dVar 5) aNil))) aNil)) aNil))))) aoNil))))))))))
end DL
set_option Elab.async false
set_option linter.all false
set_option maxRecDepth 100000
set_option maxHeartbeats 4000000
set_option exponentiation.threshold 10000
/-! QK17: _law_is over great primes -/
namespace DL
open PySem PySem.Spec L2 DM
theorem does_law_whole {K : PySem.W.Frag} {ca : Str → Addr} : Does 2 (rd_law_whole K ca) sp_law_whole := by
  rintro ds Q ⟨i, lo, rfl, hQ⟩
  exact ⟨_, _, rfl, isi_int, _, rfl, _, _, rfl, isi_intbool, _, rfl, _, rfl, _, _, _, rfl, rfl, rfl, hQ⟩
def isW : TDS := dWhile (dAnd (dTest (dOp fGt (oSlot 5) (oVal (dC (.int 0))))) (dTest (dOp fEq (oVal (dOp fMod (oSlot 5) (oSlot 7))) (oVal (dC (.int 0)))))) (dAsg (dTup (aCons (dOp fFdiv (oSlot 5) (oSlot 7)) (aCons (dOp fAdd (oVal (dOp fIx (oSlot 3) (oSlot 6))) (oVal (dOp fIx (oSlot 4) (oVal (dC (.int 1)))))) aNil))) (gTupD 2 (gConsD (gN 5) (gConsD (gSetI 3 (oSlot 6)) gNilD))))
def isB (K : PySem.W.Frag) (ca : Str → Addr) : TDS := (dSeq (dIfS (dOr (dNot (dTru (oVal (dCB (fIsi K ca) (aoCons (oSlot 4) (aoCons (oVal (dC (.ty "tuple"))) aoNil)))))) (dOr (dTest (dOp fNe (oVal (dCB fLen (aoCons (oSlot 4) aoNil))) (oVal (dC (.int 2))))) (dOr (dNot (dTru (oVal (dApp sp_law_whole (aCons (dOp fIx (oSlot 4) (oVal (dC (.int 0)))) (aCons (dC (.int 2)) aNil)))))) (dNot (dTru (oVal (dApp sp_law_whole (aCons (dOp fIx (oSlot 4) (oVal (dC (.int 1)))) (aCons (dC (.int 1)) aNil))))))))) (dRet (dC (.bl false))) dNext) (dSeq (dAsg (dIf (dTest (dOp fLe (oVal (dOp fIx (oSlot 4) (oVal (dC (.int 0))))) (oVal (dOp fPow (oVal (dC (.int 10))) (oVal (dC (.int 20))))))) (dOp fIx (oSlot 4) (oVal (dC (.int 0)))) (dC (.int 0))) (gN 5)) (dSeq (dFor (iEnumD (aCons (dVar 1) aNil)) (gTupD 2 (gConsD (gN 6) (gConsD (gN 7) gNilD))) isW) (dIfS (dTest (dOp fNe (oSlot 5) (oVal (dC (.int 1))))) (dRet (dC (.bl false))) dNext))))
theorem rd_law_is_eq {K : PySem.W.Frag} {ca : Str → Addr} : rd_law_is K ca = (dSeq (dIfS (dOr (dNot (dTru (oVal (dCB (fIsi K ca) (aoCons (oSlot 0) (aoCons (oVal (dC (.cls "Number"))) aoNil)))))) (dNot (dTru (oVal (dCB (fIsi K ca) (aoCons (oVal (dFld "Number" "powers" (dVar 0))) (aoCons (oVal (dC (.ty "tuple"))) aoNil))))))) (dRet (dC (.bl false))) dNext) (dSeq (dOwn (fRep (oVal (dNew (fLst (aCons (dC (.int 0)) aNil)))) (oVal (dCB fLen (aoCons (oSlot 1) aoNil)))) 3) (dSeq (dFor (iSeqD (dFld "Number" "powers" (dVar 0))) (gN 4) (isB K ca)) (dRet (dOp fEq (oSlot 3) (oVal (dNew (fCB fListB (aoCons (oSlot 2) aoNil))))))))) := rfl
theorem pp_set (m : Nat) : ∀ {ps fs : List Nat} {k : Nat} (h1 : fs.length = ps.length) (h2 : k < ps.length), pp ps (fs.set k ((fs[k]'(by omega)) + m)) = pp ps fs * ps[k] ^ m
  | [], _, k, _, h => absurd h (Nat.not_lt_zero k)
  | p :: ps, f :: fs, 0, h1, h2 => by
    show p ^ (f + m) * pp ps fs = p ^ f * pp ps fs * p ^ m
    rw [Nat.pow_add]
    ac_rfl
  | p :: ps, f :: fs, k + 1, h1, h2 => by
    have ih := pp_set m (ps := ps) (fs := fs) (k := k) (Nat.succ.inj h1) (Nat.lt_of_succ_lt_succ h2)
    show p ^ f * pp ps (fs.set k (fs[k]'(by have := Nat.succ.inj h1; have := Nat.lt_of_succ_lt_succ h2; omega) + m)) = p ^ f * pp ps fs * (ps[k]'(Nat.lt_of_succ_lt_succ h2)) ^ m
    rw [ih]
    ac_rfl
  | _ :: _, [], _, h, _ => nomatch h
theorem ixN_nat {n k : Nat} (h : k < n) : ixN n (k : Int) = some k := by
  unfold ixN
  rw [if_pos (by omega), if_pos (by omega)]
  simp
theorem intsD_set (fs : List Nat) (k v : Nat) : (intsD fs).set k (.int v) = intsD (fs.set k v) := by
  unfold intsD
  rw [List.map_set]
theorem is_while {p : Nat × Nat} {ps : List Nat} {k : Nat} (hk : k < ps.length) (hq : 2 ≤ ps[k]) (hq2 : ps[k] ≤ 10 ^ 20) {V B : Nat} {F : DEnds} {X0 X1 X2 : Ent}
    (hF : ∀ (fs : List Nat) (L : Nat), fs.length = ps.length → 0 < L → L ∣ B → pp ps fs * L ^ p.2 = V → ¬ ps[k] ∣ L → F.nx [X0, X1, X2, .ol (intsD fs), .sh (pairD p), .sh (.int L), .sh (.int k), .sh (.int ps[k])])
    {fs : List Nat} {L : Nat} (h1 : fs.length = ps.length) (h2 : 0 < L) (h3 : L ∣ B) (h4 : pp ps fs * L ^ p.2 = V) :
    isW F [X0, X1, X2, .ol (intsD fs), .sh (pairD p), .sh (.int L), .sh (.int k), .sh (.int ps[k])] := by
  refine ⟨fun n e => ∃ (fs : List Nat) (L : Nat), e = [X0, X1, X2, .ol (intsD fs), .sh (pairD p), .sh (.int L), .sh (.int k), .sh (.int ps[k])] ∧ fs.length = ps.length ∧ 0 < L ∧ L ∣ B ∧ pp ps fs * L ^ p.2 = V ∧ n = L, ⟨L, fs, L, rfl, h1, h2, h3, h4, rfl⟩, ?_⟩
  rintro n _ ⟨fs, L, rfl, h1, h2, h3, h4, hn⟩
  refine ⟨_, _, _, rfl, rfl, fGt_nat L 0, _, rfl, ?_⟩
  rw [decide_eq_true h2]
  refine ⟨_, _, _, rfl, rfl, fMod_nat (by omega), _, _, _, rfl, rfl, fEq_int _ _, _, rfl, ?_⟩
  by_cases hd : ps[k] ∣ L
  · have e0 : L % ps[k] = 0 := Nat.mod_eq_zero_of_dvd hd
    rw [e0]
    have hkf : k < fs.length := by omega
    refine ⟨_, _, _, rfl, rfl, fFdiv_nat (by omega) hq2, _, _, _, rfl, rfl, fIx_ints hkf, _, _, _, rfl, rfl, rfl, _, _, _, rfl, rfl, fAdd_nat _ _, len_line rfl, rfl, ⟨_, rfl⟩, _, _, k, rfl, rfl, ixN_nat (by rw [intsD_len]; exact hkf), rfl, L / ps[k], ?_, fs.set k (fs[k] + p.2), L / ps[k], ?_, by rw [List.length_set]; exact h1, Nat.div_pos (Nat.le_of_dvd h2 hd) (by omega), Nat.dvd_trans (Nat.div_dvd_of_dvd hd) h3, ?_, rfl⟩
    · rw [hn]
      exact Nat.div_lt_self h2 hq
    · rw [← intsD_set] <;> rfl
    · rw [pp_set p.2 h1 hk, Nat.mul_assoc, ← Nat.mul_pow, Nat.mul_div_cancel' hd]
      exact h4
  · have e0 : L % ps[k] ≠ 0 := fun z => hd (Nat.dvd_of_mod_eq_zero z)
    rw [show (((L % ps[k] : Nat) : Int) == 0) = false from by simp; omega]
    exact hF fs L h1 h2 h3 h4 hd
/-- over the primes -/
theorem is_inner {p : Nat × Nat} {ps : List Nat} (hps : ∀ q ∈ ps, 2 ≤ q ∧ q ≤ 10 ^ 20) {V B : Nat} {F : DEnds} {X0 X1 X2 : Ent}
    (hF : ∀ (fs : List Nat) (L : Nat) t6 t7, fs.length = ps.length → 0 < L → L ∣ B → pp ps fs * L ^ p.2 = V → (∀ q ∈ ps, ¬ q ∣ L) → F.nx [X0, X1, X2, .ol (intsD fs), .sh (pairD p), .sh (.int L), t6, t7]) :
    ∀ (qs pre fs : List Nat) (L : Nat) (t6 t7 : Ent), ps = pre ++ qs → fs.length = ps.length → 0 < L → L ∣ B → pp ps fs * L ^ p.2 = V → (∀ q ∈ pre, ¬ q ∣ L) →
    forL (fun _ => True) (gTupD 2 (gConsD (gN 6) (gConsD (gN 7) gNilD))) isW F (enumG pre.length (intsD qs)) [X0, X1, X2, .ol (intsD fs), .sh (pairD p), .sh (.int L), t6, t7]
  | [], pre, fs, L, t6, t7, e, h1, h2, h3, h4, h5 => ⟨trivial, hF fs L t6 t7 h1 h2 h3 h4 fun q hq => h5 q (by rw [e, List.append_nil] at hq; exact hq)⟩
  | q :: qs, pre, fs, L, t6, t7, e, h1, h2, h3, h4, h5 => by
    have hk : pre.length < ps.length := by rw [e, List.length_append, List.length_cons]; omega
    have hq : ps[pre.length] = q := by
      subst e
      rw [List.getElem_append_right (Nat.le_refl _)]
      simp
    have hm := hps q (by rw [e]; simp)
    refine ⟨trivial, rfl, rfl, ?_⟩
    have := is_while (p := p) (V := V) (B := L) (X0 := X0) (X1 := X1) (X2 := X2) hk (by rw [hq]; exact hm.1) (by rw [hq]; exact hm.2) (F := { F with nx := forL (fun _ => True) (gTupD 2 (gConsD (gN 6) (gConsD (gN 7) gNilD))) isW F (enumG (pre.length + 1) (intsD qs)), ct := forL (fun _ => True) (gTupD 2 (gConsD (gN 6) (gConsD (gN 7) gNilD))) isW F (enumG (pre.length + 1) (intsD qs)), bk := F.nx })
      (fun fs' L' g1 g2 g3 g4 g5 => by
        have := is_inner hps hF qs (pre ++ [q]) fs' L' (.sh (.int pre.length)) (.sh (.int ps[pre.length])) (by rw [e]; simp) g1 g2 (Nat.dvd_trans g3 h3) g4 fun r hr => by
          rcases List.mem_append.mp hr with hr | hr
          · exact fun z => h5 r hr (Nat.dvd_trans z g3)
          · rw [List.mem_singleton.mp hr, ← hq]
            exact g5
        rw [List.length_append] at this
        exact this) h1 h2 (Nat.dvd_refl L) h4
    rw [hq] at this
    exact this
theorem gps_prm : ∀ p ∈ gps, Prm p := by
  intro p hp
  by_cases h : p = 1000000009
  · rw [h]
    exact prm_of 15 (by decide) (by decide) (by decide +kernel)
  · refine prm_list p ?_
    unfold gps at hp
    simp only [List.mem_cons, List.not_mem_nil, or_false] at hp ⊢
    omega
theorem GP.prm {ps : List Nat} (h : GP ps) : ∀ p ∈ ps, Prm p := fun p hp => gps_prm p (h.mem p hp)
theorem gps_ok : ∀ p ∈ gps, 2 ≤ p ∧ p < 2 ^ 34 ∧ p ∣ gR := by decide +kernel
theorem GP.ok {ps : List Nat} (h : GP ps) : ∀ p ∈ ps, 2 ≤ p ∧ p < 2 ^ 34 ∧ p ∣ gR := fun p hp => gps_ok p (h.mem p hp)
theorem GP.len {ps : List Nat} (h : GP ps) : ps.length ≤ 7 := List.Nodup.length_le_of_subset h.nd fun p hp => h.mem p hp
theorem gR_ok : ROk gR := by
  refine ⟨by decide, ?_⟩
  exact Nat.lt_of_lt_of_le (show gR < 2 ^ 300 by decide) (Nat.pow_le_pow_right (by decide) (by decide))
theorem GP.pc {ps : List Nat} (h : GP ps) : PC ps := by
  refine ⟨?_, fun p hp => (h.prm p hp).1⟩
  refine h.nd.imp_of_mem fun {a b} ha hb hne => ?_
  refine (h.prm b hb).2 a fun hd => ?_
  have h1 := (h.prm a ha).2 b fun hd2 => hne (Nat.dvd_antisymm hd2 hd)
  have h2 : Nat.gcd b a = b := Nat.gcd_eq_left hd
  have h3 : Nat.gcd b a = 1 := h1
  have := (h.prm b hb).1
  omega
theorem left_one {ps es : List Nat} (h : GP ps) {L : Nat} (hL : L ∣ pp ps es) (hn : ∀ q ∈ ps, ¬ q ∣ L) : L = 1 := by
  have c : Nat.Coprime L (pp ps es) := pp_co fun q hq => (h.prm q hq).2 L (hn q hq)
  have e : Nat.gcd L (pp ps es) = L := Nat.gcd_eq_left hL
  have e2 : Nat.gcd L (pp ps es) = 1 := c
  omega
theorem val_dvd : ∀ {w : List (Nat × Nat)} {p : Nat × Nat}, p ∈ w → 1 ≤ p.2 → p.1 ∣ val w
  | q :: w, p, h, h1 => by
    rcases List.mem_cons.mp h with rfl | h
    · exact Nat.dvd_trans (Nat.dvd_trans ⟨p.1 ^ (p.2 - 1), by rw [← Nat.pow_succ']; congr 1; omega⟩ (Nat.dvd_refl (p.1 ^ p.2))) (Nat.dvd_mul_right _ _)
    · exact Nat.dvd_trans (val_dvd h h1) (Nat.dvd_mul_left _ _)
theorem fLe_nat' {a b : Nat} (h : a ≤ b) : fLe (.int a) (.int b) = some (.bl true) := by rw [fLe_nat, decide_eq_true h]
theorem is_outer {K : PySem.W.Frag} {ca : Str → Addr} {ps es : List Nat} {w : List (Nat × Nat)} (hps : GP ps) (hw : WF gR w) (hv : val w = pp ps es) {F : DEnds} {X0 X2 : Ent}
    (hF : ∀ (fs : List Nat) t4 t5 t6 t7, fs.length = ps.length → pp ps fs = val w → F.nx [X0, .sh (.lst (intsD ps)), X2, .ol (intsD fs), t4, t5, t6, t7]) :
    ∀ (w2 w1 : List (Nat × Nat)) (fs : List Nat) (t4 t5 t6 t7 : Ent), w = w1 ++ w2 → fs.length = ps.length → pp ps fs = val w1 →
    forL (fun _ => True) (gN 4) (isB K ca) F (w2.map pairD) [X0, .sh (.lst (intsD ps)), X2, .ol (intsD fs), t4, t5, t6, t7]
  | [], w1, fs, t4, t5, t6, t7, e, h1, h2 => ⟨trivial, hF fs _ _ _ _ h1 (by rw [h2, e, List.append_nil])⟩
  | p :: w2, w1, fs, t4, t5, t6, t7, e, h1, h2 => by
    have hm : p ∈ w := by rw [e]; simp
    obtain ⟨ho, hp2⟩ := hw.ok p hm
    have c1 : decide ((2 : Int) ≤ (p.1 : Int)) = true := decide_eq_true (by have := ho.lo; omega)
    have c2 : decide ((1 : Int) ≤ (p.2 : Int)) = true := decide_eq_true (by omega)
    refine ⟨trivial, _, _, rfl, isi_tup, _, _, rfl, rfl, _, _, rfl, rfl, _, _, _, rfl, rfl, fNe_int 2 2, _, rfl, ?_⟩
    refine ⟨_, _, _, rfl, rfl, rfl, _, _, rfl, ?_⟩
    rw [c1]
    refine ⟨_, _, rfl, rfl, _, _, _, rfl, rfl, rfl, _, _, rfl, ?_⟩
    rw [c2]
    refine ⟨_, _, rfl, rfl, ?_⟩
    refine ⟨_, _, _, rfl, rfl, rfl, _, _, _, rfl, rfl, fPow_1020, _, _, _, rfl, rfl, fLe_nat' ho.hi, _, rfl, ?_⟩
    refine ⟨_, _, _, rfl, rfl, rfl, _, _, rfl, rfl, ?_⟩
    rw [enumOf_eq]
    refine is_inner (p := p) (ps := ps) (V := pp ps fs * p.1 ^ p.2) (B := p.1) (fun q hq => ⟨(hps.ok q hq).1, by have := (hps.ok q hq).2.1; omega⟩) (fun fs' L t6 t7 g1 g2 g3 g4 g5 => ?_) ps [] fs p.1 _ _ rfl h1 (by have := ho.lo; omega) (Nat.dvd_refl _) rfl (fun q hq => nomatch hq)
    have e1 : L = 1 := left_one hps (es := es) (by rw [← hv]; exact Nat.dvd_trans g3 (val_dvd hm hp2)) g5
    subst e1
    refine ⟨_, _, _, rfl, rfl, fNe_int _ _, _, rfl, ?_⟩
    refine is_outer hps hw hv hF w2 (w1 ++ [p]) fs' _ _ _ _ (by rw [e]; simp) g1 ?_
    rw [Nat.one_pow, Nat.mul_one] at g4
    rw [g4, h2, val_app]
    show val w1 * p.1 ^ p.2 = val w1 * (p.1 ^ p.2 * 1)
    rw [Nat.mul_one]
theorem rep_zero : ∀ (n : Nat), (List.replicate n [D.int 0]).flatten = intsD (List.replicate n 0)
  | 0 => rfl
  | n + 1 => by
    rw [List.replicate_succ, List.flatten_cons, rep_zero n]
    rfl
theorem does_law_is {K : PySem.W.Frag} {ca : Str → Addr} : Does 8 (rd_law_is K ca) sp_law_is := by
  rintro ds Q ⟨w, ps, es, rfl, hps, hw, hl, hv, hQ⟩
  rw [rd_law_is_eq]
  have hl14 := hps.len
  refine ⟨_, _, rfl, isi_num, _, _, rfl, rfl, _, _, _, rfl, rfl, _, _, rfl, isi_tup, _, _, rfl, rfl, ?_⟩
  refine ⟨len_line rfl, _, _, rfl, rfl, _, _, rfl, rfl, ⟨by omega, by rw [intsD_len]; omega⟩, ?_, Nat.le_of_ble_eq_true rfl, ?_⟩
  · rw [intsD_len]
    exact le_line (by simp; omega)
  · have e0 : (List.replicate ((intsD ps).length : Int).toNat [D.int 0]).flatten = intsD (List.replicate ps.length 0) := by
      rw [intsD_len, Int.toNat_natCast, rep_zero]
    rw [e0]
    refine ⟨_, _, _, rfl, rfl, _, rfl, ?_⟩
    refine is_outer hps hw hv (fun fs t4 t5 t6 t7 g1 g2 => ?_) w [] _ _ _ _ _ rfl (by simp) (pp_zeros ps)
    have e1 : fs = es := pp_inj hps.pc g1 hl (by rw [g2, hv])
    subst e1
    refine ⟨_, _, rfl, rfl, _, _, _, rfl, rfl, fEq_ints fs fs, ?_⟩
    rw [decide_eq_true rfl]
    exact hQ
end DL
set_option Elab.async false
set_option linter.all false
set_option maxRecDepth 100000
set_option maxHeartbeats 4000000
set_option exponentiation.threshold 10000
/-! Q17a: k17: _law_great, _law_number, _law_written -/
namespace DL
open PySem PySem.Spec L2 DM
theorem does_law_great : Does 0 rd_law_great sp_law_great := by
  rintro ds Q ⟨rfl, hQ⟩
  exact ⟨len_line rfl, hQ⟩
theorem does_law_num17 : Does 4 rd_law_num17 sp_law_num17 := by
  rintro ds Q ⟨w, rfl, ⟨R, hw⟩, hne, hQ⟩
  refine ⟨_, rfl, le_line (by rw [List.length_map]; have := hw.ln; omega), ?_⟩
  show lcL _ [2, 3] _ _ _ _ (w.map pairD) [] [.sh (.tup (w.map pairD)), .un, .un, .un]
  refine lcL_pairs (f := fun p => some (.str (factText p))) trivial (fun p hp K1 hK => ?_) ?_
  · have a1 : p.1 ≤ 10 ^ 20 := (hw.wf.ok p hp).1.hi
    have a2 : p.2 ≤ 10 ^ 100 := hw.sm p hp
    have l1 := len_strN (n := p.1) (k := 21) (by decide) (Nat.lt_of_le_of_lt a1 (by decide))
    have l2 := len_strN (n := p.2) (k := 101) (by decide) (Nat.lt_of_le_of_lt a2 (by decide))
    refine ⟨_, _, rfl, fStr_nat (Nat.le_trans a1 (by decide)), _, _, _, rfl, rfl, rfl, _, rfl, ?_⟩
    by_cases h : 1 < p.2
    · have e1 : decide ((1 : Int) < (p.2 : Int)) = true := decide_eq_true (by omega)
      have e0 : factText p = strN p.1 ++ (("^" : Str) ++ strN p.2) := by unfold factText; rw [if_pos h]
      rw [e1]
      have h3 : (("^" : Str) ++ strN p.2).length ≤ 102 := by
        rw [TL.len_tl, TL.tl_append, List.length_append, ← TL.len_tl, ← TL.len_tl]
        have : ("^" : Str).length = 1 := rfl
        omega
      refine ⟨_, _, rfl, fStr_nat (Nat.le_trans a2 (by decide)), _, _, _, rfl, rfl, fAdd_str (by have : ("^" : Str).length = 1 := rfl; omega), _, _, _, rfl, rfl, fAdd_str (by omega), ?_⟩
      rw [e0] at hK
      exact hK
    · have e1 : decide ((1 : Int) < (p.2 : Int)) = false := decide_eq_false (by omega)
      have e0 : factText p = strN p.1 ++ ("" : Str) := by unfold factText; rw [if_neg h]
      rw [e1]
      refine ⟨_, _, _, rfl, rfl, fAdd_str (by have : ("" : Str).length = 0 := rfl; omega), ?_⟩
      rw [e0] at hK
      exact hK
  · have e1 : ([] ++ w.filterMap fun p => some (D.str (factText p))) = (w.map factText).map D.str := by
      rw [List.nil_append, fm_some, List.map_map] <;> rfl
    rw [e1]
    refine ⟨⟨_, rfl⟩, _, _, _, w.map factText, rfl, rfl, rfl, strsOf_map _, ?_, ?_⟩
    · have hs := sum_le (l := (w.map factText).map (·.length)) (k := 130) fun x hx => by
        obtain ⟨y, hy, rfl⟩ := List.mem_map.mp hx
        obtain ⟨p, hp, rfl⟩ := List.mem_map.mp hy
        exact len_fact (hw.wf.ok p hp).1.hi (hw.sm p hp)
      have := hw.ln
      have h1 : ("*" : Str).length = 1 := rfl
      rw [List.length_map, List.length_map] at hs
      rw [List.length_map, h1]
      omega
    · have e3 : Txt.join ("*" : Str) (w.map factText) = textOf w := by unfold textOf; rw [if_neg hne]
      rw [e3]
      exact ⟨w, rfl, ⟨R, hw⟩, hQ⟩
/-! ### a drawn writing -/
theorem fLen_ints {ps : List Nat} : fLen [.lst (intsD ps)] = some (.int (ps.length : Nat)) := by
  show some (D.int ((intsD ps).length)) = _
  rw [intsD_len]
structure PWr (ps : List Nat) (w : List (Nat × Nat)) (es : List Nat) : Prop where
  ok : ∀ p ∈ w, (∃ a ∈ ps, ∃ b ∈ ps, p.1 = a * b) ∧ 1 ≤ p.2 ∧ p.2 ≤ 10 ^ 30
  el : es.length = ps.length
  vl : val w = pp ps es
theorem PWr.step {ps es : List Nat} {w : List (Nat × Nat)} (h : PWr ps w es) {i j m : Nat} (hi : i < ps.length) (hj : j < ps.length) (h1 : 1 ≤ m) (h2 : m ≤ 10 ^ 30) :
    PWr ps (w ++ [(ps[i] * ps[j], m)]) ((es.set i (es[i]'(by rw [h.el]; exact hi) + m)).set j ((es.set i (es[i]'(by rw [h.el]; exact hi) + m))[j]'(by rw [List.length_set, h.el]; exact hj) + m)) where
  ok := fun p hp => by
    rcases List.mem_append.mp hp with hp | hp
    · exact h.ok p hp
    · rw [List.mem_singleton.mp hp]
      exact ⟨⟨_, List.getElem_mem hi, _, List.getElem_mem hj, rfl⟩, h1, h2⟩
  el := by rw [List.length_set, List.length_set]; exact h.el
  vl := by
    rw [pp_set m (by rw [List.length_set]; exact h.el) hj, pp_set m h.el hi, val_app, h.vl]
    show pp ps es * ((ps[i] * ps[j]) ^ m * 1) = _
    rw [Nat.mul_one, Nat.mul_pow, Nat.mul_assoc]
def wrB : TDS := (dSeq (dPair (aCons (dApp sp_law_draw (aCons (dVar 0) (aCons (dCB fLen (aoCons (oSlot 1) aoNil)) aNil))) (aCons (dApp sp_law_draw (aCons (dVar 0) (aCons (dCB fLen (aoCons (oSlot 1) aoNil)) aNil))) aNil)) 7 8) (dSeq (dAsg (dOp fIx (oVal (dNew (fLst (aCons (dC (.int 1)) (aCons (dOp fAdd (oVal (dC (.int 1))) (oVal (dApp sp_law_draw (aCons (dVar 0) (aCons (dC (.int 5)) aNil))))) (aCons (dOp fAdd (oVal (dC (.int 1))) (oVal (dApp sp_law_draw (aCons (dVar 0) (aCons (dOp fPow (oVal (dC (.int 10))) (oVal (dC (.int 30)))) aNil))))) aNil)))))) (oVal (dApp sp_law_draw (aCons (dVar 0) (aCons (dC (.int 3)) aNil))))) (gN 6)) (dSeq (dExpr (dMeth 3 fAppend (aCons (dTup (aCons (dOp fMul (oVal (dOp fIx (oSlot 1) (oSlot 7))) (oVal (dOp fIx (oSlot 1) (oSlot 8)))) (aCons (dVar 6) aNil))) aNil))) (dSeq (dAsg (dOp fAdd (oVal (dOp fIx (oSlot 4) (oSlot 7))) (oSlot 6)) (gSetI 4 (oSlot 7))) (dAsg (dOp fAdd (oVal (dOp fIx (oSlot 4) (oSlot 8))) (oSlot 6)) (gSetI 4 (oSlot 8)))))))
theorem rd_law_written_eq : rd_law_written = (dSeq (dOwn2 (fLst aNil) (fRep (oVal (dNew (fLst (aCons (dC (.int 0)) aNil)))) (oVal (dCB fLen (aoCons (oSlot 1) aoNil)))) 3 4) (dSeq (dFor (iRange1 (aoCons (oSlot 2) aoNil)) (gN 5) wrB) (dRet (dTup (aCons (dCB fTupleB (aoCons (oSlot 3) aoNil)) (aCons (dVar 4) aNil)))))) := rfl
theorem wr_for {ps : List Nat} (hps : GP ps) (hp0 : 0 < ps.length) {X2 : Ent} {F : DEnds} {n : Nat} (hF : ∀ w es t5 t6 t7 t8, PWr ps w es → w.length = n → F.nx [.sh .src, .sh (.lst (intsD ps)), X2, .ol (w.map pairD), .ol (intsD es), t5, t6, t7, t8]) :
    ∀ (xs : List D) (w : List (Nat × Nat)) (es : List Nat) (t5 t6 t7 t8 : Ent), w.length + xs.length = n → w.length + xs.length ≤ 3 → PWr ps w es →
    forL (fun _ => True) (gN 5) wrB F xs [.sh .src, .sh (.lst (intsD ps)), X2, .ol (w.map pairD), .ol (intsD es), t5, t6, t7, t8]
  | [], w, es, t5, t6, t7, t8, hn, hl, h => ⟨trivial, hF w es _ _ _ _ h (by simpa using hn)⟩
  | x :: xs, w, es, t5, t6, t7, t8, hn, hl, h => by
    rw [List.length_cons] at hn hl
    have hl7 := hps.len
    refine ⟨trivial, _, _, rfl, fLen_ints, ps.length, rfl, hp0, small_8000 (Nat.le_trans hl7 (by decide)), fun i hi => ?_⟩
    refine ⟨_, _, rfl, fLen_ints, ps.length, rfl, hp0, small_8000 (Nat.le_trans hl7 (by decide)), fun j hj => ⟨len_line rfl, rfl, rfl, ?_⟩⟩
    refine ⟨5, rfl, by decide, small_8000 (by decide), fun a ha => ⟨_, _, _, rfl, rfl, fAdd_nat 1 a, ?_⟩⟩
    refine ⟨_, _, _, rfl, rfl, fPow_1030, 10 ^ 30, rfl, by decide, small_8000 (by decide), fun c hc => ⟨_, _, _, rfl, rfl, fAdd_nat 1 c, len_line rfl, ?_⟩⟩
    refine ⟨3, rfl, by decide, small_8000 (by decide), fun k hk => ?_⟩
    obtain ⟨m, hm, m1, m2⟩ : ∃ m : Nat, [1, 1 + a, 1 + c][k] = m ∧ 1 ≤ m ∧ m ≤ 10 ^ 30 := by
      refine ⟨_, rfl, ?_, ?_⟩ <;> match k, hk with
        | 0, _ => simp; try omega
        | 1, _ => simp; try omega
        | 2, _ => simp; try omega
    have e1 : fIx (.lst (intsD [1, 1 + a, 1 + c])) (.int k) = some (.int m) := by rw [fIx_ints (show k < [1, 1 + a, 1 + c].length from hk), hm]
    refine ⟨_, _, _, rfl, rfl, e1, ?_⟩
    have pi := hps.ok ps[i] (List.getElem_mem hi)
    have pj := hps.ok ps[j] (List.getElem_mem hj)
    have hel := h.el
    refine ⟨⟨_, rfl⟩, _, _, _, rfl, rfl, fIx_ints hi, _, _, _, rfl, rfl, fIx_ints hj, _, _, _, rfl, rfl, fMul_w (Nat.lt_of_lt_of_le pi.2.1 (Nat.pow_le_pow_right (by decide) (by decide))) (Nat.lt_of_lt_of_le pj.2.1 (Nat.pow_le_pow_right (by decide) (by decide))), len_line rfl, _, _, _, rfl, fApp (by rw [List.length_map]; omega), ?_⟩
    have e2 : w.map pairD ++ [D.tup [.int ((ps[i] * ps[j] : Nat) : Int), .int m]] = (w ++ [(ps[i] * ps[j], m)]).map pairD := by
      rw [List.map_append] <;> rfl
    rw [e2]
    have gi : i < es.length := by omega
    refine ⟨_, _, _, rfl, rfl, fIx_ints gi, _, _, _, rfl, rfl, fAdd_nat _ _, ⟨_, rfl⟩, _, _, i, rfl, rfl, ixN_nat (by rw [intsD_len]; exact gi), ?_⟩
    rw [intsD_set]
    have gj : j < (es.set i (es[i] + m)).length := by rw [List.length_set]; omega
    refine ⟨_, _, _, rfl, rfl, fIx_ints gj, _, _, _, rfl, rfl, fAdd_nat _ _, ⟨_, rfl⟩, _, _, j, rfl, rfl, ixN_nat (by rw [intsD_len]; exact gj), ?_⟩
    rw [intsD_set]
    exact wr_for hps hp0 hF xs _ _ _ _ _ _ (by rw [List.length_append, List.length_singleton]; omega) (by rw [List.length_append, List.length_singleton]; omega) (h.step hi hj m1 m2)
theorem does_law_written : Does 9 rd_law_written sp_law_written := by
  rintro ds Q ⟨ps, m, rfl, hps, hp0, hm1, hm3, hQ⟩
  rw [rd_law_written_eq]
  have hl7 := hps.len
  refine ⟨len_line rfl, len_line rfl, _, _, rfl, fLen_ints, _, _, rfl, rfl, ⟨by omega, by omega⟩, le_line (by simp; omega), Nat.le_of_ble_eq_true rfl, Nat.le_of_ble_eq_true rfl, by decide, ?_⟩
  have e0 : (List.replicate ((ps.length : Nat) : Int).toNat [D.int 0]).flatten = intsD (List.replicate ps.length 0) := by
    rw [Int.toNat_natCast, rep_zero]
  rw [e0]
  refine ⟨m, rfl, by omega, by omega, ?_⟩
  refine wr_for hps hp0 (n := m) (fun w es t5 t6 t7 t8 h hn => ?_) _ [] _ _ _ _ _ (by simp) (by simp; omega) ⟨fun p hp => (nomatch hp), by simp, (pp_zeros ps).symm⟩
  refine ⟨_, _, rfl, rfl, len_line rfl, hQ w es ⟨h.ok, by omega, fun z => ?_, h.el, h.vl⟩⟩
  rw [z] at hn
  have : m = 0 := hn.symm
  omega
end DL
set_option Elab.async false
set_option linter.all false
set_option maxRecDepth 100000
set_option maxHeartbeats 4000000
set_option exponentiation.threshold 10000
/-! Q17b: k17: _law_pair_right -/
namespace DL
open PySem PySem.Spec L2 DM
section
variable {e : DEnv} {t u v te : TD} {ta tb : TDO} {tf : TDF} {D' : DEnds} {V : TDS} {es fs : List Nat} {i j : Nat} {a b : D}
theorem sif2 {V : TDS} {tt : TDT} {T : TDS} {k : Bool} (h : TV tt e (· = k)) (hb : k = false) (h2 : V D' e) : dSeq (dIfS tt T dNext) V D' e := sif h hb h2
theorem spair (h : AV tf e (· = [a, b])) (h2 : V D' ((e.set i (.sh a)).set j (.sh b))) : dSeq (dPair tf i j) V D' e := h _ fun ds hd => by
  subst hd
  exact ⟨len_line rfl, rfl, rfl, h2⟩
/-- a comprehension over pairs of ints -/
theorem ev_zipP {f : Nat × Nat → D} {l : List (Nat × Nat)} {src : TDI} {x y : Nat} (hs : ∀ Q : List D → (DEnv → Prop) → DEnv → Prop, Q (l.map pairD) (fun _ => True) e → src e Q) (hw : wipeE e [x, y] = e) (hl : l.length ≤ 100000)
    (ht : ∀ p ∈ l, ∀ K1 : Option D → DEnv → Prop, K1 (some (f p)) e → te ((e.set x (.sh (.int p.1))).set y (.sh (.int p.2))) fun d e3 => K1 (some d) (wipeE e3 [x, y])) :
    EV (dNew (fLc src [x, y] (gTupD 2 (gConsD (gN x) (gConsD (gN y) gNilD))) dYes te)) e (· = .lst (l.map f)) := fun Q hq => hs _ (by
  refine ⟨le_line (by rw [List.length_map]; omega), ?_⟩
  show lcL _ [x, y] _ _ _ _ (l.map pairD) [] (wipeE e [x, y])
  rw [hw]
  refine lcL_pairs (f := fun p => some (f p)) trivial (fun p hp K1 hK => ?_) ?_
  · exact ht p hp K1 hK
  · rw [List.nil_append, fm_some]
    exact hq _ rfl)
theorem src_var {l : List D} (h : e[i]? = some (.sh (.lst l))) : ∀ Q : List D → (DEnv → Prop) → DEnv → Prop, Q l (fun _ => True) e → iSeqD (dVar i) e Q := fun Q hq => ev_var h _ fun d hd => by
  subst hd
  exact ⟨l, rfl, hq⟩
theorem src_zip (h : e[i]? = some (.sh (.lst (intsD es)))) (h2 : e[j]? = some (.sh (.lst (intsD fs)))) : ∀ Q : List D → (DEnv → Prop) → DEnv → Prop, Q ((es.zip fs).map pairD) (fun _ => True) e → iZipD (aCons (dVar i) (aCons (dVar j) aNil)) e Q := fun Q hq => av1 (ev_var h) (av1 (ev_var h2) av_nil) _ fun ds hd => by
  subst hd
  refine ⟨_, _, _, _, rfl, rfl, rfl, ?_⟩
  rw [zipOf_pairs]
  exact hq
theorem ev_lzip (h : e[i]? = some (.sh (.lst (intsD es)))) (h2 : e[j]? = some (.sh (.lst (intsD fs)))) : EV (dNew (fListZip (aCons (dVar i) (aCons (dVar j) aNil)))) e (· = .lst ((es.zip fs).map pairD)) := fun Q hq => by
  unfold dNew fListZip
  refine av1 (ev_var h) (av1 (ev_var h2) av_nil) _ fun ds hd => ?_
  subst hd
  refine ⟨_, _, _, _, rfl, rfl, rfl, ?_⟩
  rw [zipOf_pairs]
  exact hq _ rfl
theorem sasgT {P : D → Prop} (h : EV t e P) (h2 : ∀ d, P d → ∃ a b, d = .tup [a, b] ∧ V D' ((e.set i (.sh a)).set j (.sh b))) : dSeq (dAsg t (gTupD 2 (gConsD (gN i) (gConsD (gN j) gNilD)))) V D' e := h _ fun d hd => by
  obtain ⟨a, b, rfl, h3⟩ := h2 d hd
  exact ⟨rfl, rfl, h3⟩
theorem zip_int {g : Nat → Nat → Nat} : ((es.zip fs).map fun p => D.int (g p.1 p.2 : Nat)) = intsD (List.zipWith g es fs) := by
  have := fm_int (g := g) es fs
  rw [List.nil_append, fm_some] at this
  exact this
theorem ev_zipN {g : Nat → Nat → Nat} {src : TDI} {x y : Nat} (hs : ∀ Q : List D → (DEnv → Prop) → DEnv → Prop, Q ((es.zip fs).map pairD) (fun _ => True) e → src e Q) (hw : wipeE e [x, y] = e) (hl : (es.zip fs).length ≤ 100000)
    (ht : ∀ p ∈ es.zip fs, ∀ K1 : Option D → DEnv → Prop, K1 (some (.int (g p.1 p.2 : Nat))) e → te ((e.set x (.sh (.int p.1))).set y (.sh (.int p.2))) fun d e3 => K1 (some d) (wipeE e3 [x, y])) :
    EV (dNew (fLc src [x, y] (gTupD 2 (gConsD (gN x) (gConsD (gN y) gNilD))) dYes te)) e (· = .lst (intsD (List.zipWith g es fs))) := by
  rw [← zip_int]
  exact ev_zipP hs hw hl ht
theorem nv_is {ps : List Nat} {x : Nat} (hps : GP ps) (hl : es.length = ps.length) (hx : x = pp ps es) (ha : EV t e (Nv gR x)) (hb : EV u e (· = .lst (intsD ps))) (hc : EV v e (· = .lst (intsD es))) : EV (dApp sp_law_is (aCons t (aCons u (aCons v aNil)))) e (· = .bl true) := fun Q hq =>
  ha _ fun d ⟨w, e1, e2, e3⟩ => hb _ fun d2 h2 => hc _ fun d3 h3 => by
    subst e1 h2 h3
    exact ⟨w, ps, es, rfl, hps, e2, hl, by rw [e3, hx], hq _ rfl⟩
theorem nv_parted {x y : Nat} (ha : EV t e (Nv gR x)) (hb : EV u e (Nv gR y)) : EV (dApp sp_parted (aCons t (aCons u aNil))) e (fun d => ∃ w1 w2, d = .tup [num w1, num w2] ∧ WF gR w1 ∧ WF gR w2 ∧ Parted x y (val w1) (val w2)) := fun Q hq =>
  ha _ fun d ⟨w, e1, e2, e3⟩ => hb _ fun d2 ⟨w2, f1, f2, f3⟩ => by
    subst e1 f1 e3 f3
    exact ⟨gR, w, w2, rfl, gR_ok, e2, f2, fun a b h1 h2 h3 => hq _ ⟨a, b, rfl, h1, h2, h3⟩⟩
theorem ev_all {bs : List Bool} (h : EV t e (· = .lst (bs.map D.bl))) : EV (dCB fAllB (aoCons (oVal t) aoNil)) e (· = .bl (bs.all id)) := fun Q hq => h _ fun d hd => by
  subst hd
  exact ⟨_, _, rfl, by show (blsOf _).map _ = _; rw [blsOf_map] <;> rfl, hq _ rfl⟩
theorem ov_notn {t : TD} (h : EV t e (· = .bl true)) : TV (dNot (dTru (oVal t))) e (· = false) := tv_not (tv_trub (ov_val h))
theorem all_zip {t : Nat × Nat → Bool} {n : Nat} (h1 : es.length = n) (h2 : fs.length = n) : ((es.zip fs).map t).all id = decide (∀ i (g1 : i < es.length) (g2 : i < fs.length), t (es[i], fs[i]) = true) := by
  rw [Bool.eq_iff_iff, List.all_map, List.all_eq_true, decide_eq_true_iff]
  constructor
  · intro h i g1 g2
    exact h (es[i], fs[i]) (by
      rw [List.mem_iff_getElem]
      exact ⟨i, by rw [List.length_zip]; omega, by rw [List.getElem_zip]⟩)
  · intro h p hp
    obtain ⟨i, hi, e⟩ := List.getElem_of_mem hp
    rw [List.length_zip] at hi
    rw [← e, List.getElem_zip]
    exact h i (by omega) (by omega)
theorem zw_out {es fs : List Nat} : List.zipWith (fun e f => if 0 < f then 0 else e) es fs = List.zipWith out es fs := rfl
end
theorem bl2_eq (a b : Bool) : fEq (.lst [.bl a, .bl b]) (.lst [.bl a, .bl b]) = some (.bl true) := by
  cases a <;> cases b <;> rfl
theorem does_pair_right : Does 13 rd_law_pair_right sp_law_pair_right := by
  rintro ds Q ⟨ps, es, fs, w1, w2, rfl, hps, h1, h2, l1, l2, v1, v2, hQ⟩
  have hR := gR_ok
  have hpc := hps.pc
  have hl7 := hps.len
  have z1 : (es.zip fs).length ≤ 100000 := by rw [List.length_zip]; omega
  have y1 : 0 < val w1 := by rw [v1]; exact pp_pos hpc.pos
  have y2 : 0 < val w2 := by rw [v2]; exact pp_pos hpc.pos
  have lmin : (List.zipWith min es fs).length = ps.length := zw_len l1 l2
  have lmax : (List.zipWith max es fs).length = ps.length := zw_len l1 l2
  have c1 : Nat.gcd (val w1) (val w2) = pp ps (List.zipWith min es fs) := by rw [pp_gcd hpc l1 l2, v1, v2]
  have c2 : Nat.gcd (val w2) (val w1) = pp ps (List.zipWith min es fs) := by rw [Nat.gcd_comm, c1]
  have c3 : Nat.lcm (val w1) (val w2) = pp ps (List.zipWith max es fs) := by rw [pp_lcm hpc l1 l2, v1, v2]
  have c4 : val w1 * val w2 = pp ps (List.zipWith (· + ·) es fs) := by rw [pp_add l1 l2, v1, v2]
  have c5 : Nat.lcm (val w1) (val w2) / val w2 = pp ps (List.zipWith (· - ·) (List.zipWith max es fs) fs) := by
    have := pp_sub hpc lmax l2 fun i g1 g2 => by
      rw [List.getElem_zipWith]
      exact Nat.le_max_right _ _
    rw [c3, ← this, ← v2, Nat.mul_div_cancel _ y2]
  have sub : ∀ p ∈ (List.zipWith max es fs).zip fs, p.2 ≤ p.1 := fun p hp => by
    obtain ⟨i, hi, rfl⟩ := List.getElem_of_mem hp
    rw [List.getElem_zip, List.getElem_zipWith]
    exact Nat.le_max_right _ _
  unfold rd_law_pair_right
  refine sasg1 (ev_lzip rfl rfl) ?_
  refine spair (a := .lst (intsD (List.zipWith min es fs))) (b := .lst (intsD (List.zipWith max es fs))) (av1 ?_ (av1 ?_ av_nil)) ?_
  · exact ev_zipN (src_var rfl) rfl z1 fun p hp K1 hK => ⟨_, _, rfl, fMin2 p.1 p.2, hK⟩
  · exact ev_zipN (src_var rfl) rfl z1 fun p hp K1 hK => ⟨_, _, rfl, fMax2 p.1 p.2, hK⟩
  refine sif (tv_or (ov_notn (nv_is hps lmin c1 (nv_and hR (nv_slot rfl h1) (nv_slot rfl h2)) (ev_var rfl) (ev_var rfl))) (ov_notn (nv_is hps lmin c2 (nv_share2 hR (nv_var rfl h2) (nv_var rfl h1)) (ev_var rfl) (ev_var rfl)))) rfl ?_
  refine sif (tv_or (ov_notn (nv_is hps lmax c3 (nv_or hR (nv_slot rfl h1) (nv_slot rfl h2)) (ev_var rfl) (ev_var rfl))) (ov_notn (nv_is hps lmax c3 (nv_meet2 hR (nv_var rfl h1) (nv_var rfl h2)) (ev_var rfl) (ev_var rfl)))) rfl ?_
  refine sif (ov_notn (nv_is hps (zw_len l1 l2) c4 (nv_mul hR (nv_slot rfl h1) (nv_slot rfl h2)) (ev_var rfl) ?_)) rfl ?_
  · exact ev_zipN (src_var rfl) rfl z1 fun p hp K1 hK => ⟨_, _, _, rfl, rfl, fAdd_nat p.1 p.2, hK⟩
  refine sif (ov_notn (nv_is hps (zw_len lmax l2) c5 (nv_div hR (nv_ov (nv_or hR (nv_slot rfl h1) (nv_slot rfl h2))) (nv_slot rfl h2) (Nat.dvd_lcm_right _ _)) (ev_var rfl) ?_)) rfl ?_
  · refine ev_zipN (src_zip rfl rfl) rfl (by rw [List.length_zip]; omega) fun p hp K1 hK => ⟨_, _, _, rfl, rfl, fSub_nat ?_, hK⟩
    exact sub p hp
  refine sasgT (nv_parted (nv_var rfl h1) (nv_var rfl h2)) fun d ⟨u, w, hd, hu, hw, hp⟩ => ⟨_, _, hd, ?_⟩
  have hp2 := parted_pp hpc l1 l2
  rw [← v1, ← v2] at hp2
  obtain ⟨c6, c7⟩ := hp.uniq y1 hp2
  refine sif (ov_notn (nv_is hps (zw_len l1 l2) c6 (nv_var rfl hu) (ev_var rfl) ?_)) rfl ?_
  · refine ev_zipN (src_var rfl) rfl z1 fun p hp K1 hK => ⟨_, _, _, rfl, rfl, fGt_nat p.2 0, _, rfl, ?_⟩
    unfold inn at hK
    by_cases h : 0 < p.2
    · rw [decide_eq_true h]
      rw [if_pos h] at hK
      exact hK
    · rw [decide_eq_false h]
      rw [if_neg h] at hK
      exact hK
  refine sif (ov_notn (nv_is hps (zw_len l1 l2) c7 (nv_var rfl hw) (ev_var rfl) ?_)) rfl ?_
  · refine ev_zipN (src_var rfl) rfl z1 fun p hp K1 hK => ⟨_, _, _, rfl, rfl, fGt_nat p.2 0, _, rfl, ?_⟩
    unfold out at hK
    by_cases h : 0 < p.2
    · rw [decide_eq_true h]
      rw [if_pos h] at hK
      exact hK
    · rw [decide_eq_false h]
      rw [if_neg h] at hK
      exact hK
  have hA := all_zip (es := es) (fs := fs) (t := fun p => decide (p.1 ≤ p.2)) l1 l2
  have hB : decide (val w1 ∣ val w2) = ((es.zip fs).map fun p => decide (p.1 ≤ p.2)).all id := by
    rw [hA, v1, v2]
    exact decide_eq_decide.mpr ((pp_dvd hpc l1 l2).trans ⟨fun h i g1 g2 => decide_eq_true (h i g1 g2), fun h i g1 g2 => of_decide_eq_true (h i g1 g2)⟩)
  have hC : decide (val w1 = val w2) = decide (es = fs) := by
    rw [v1, v2]
    exact decide_eq_decide.mpr ⟨fun h => pp_inj hpc l1 l2 h, fun h => by rw [h]⟩
  have e1 : ((es.zip fs).map fun p => D.bl (decide (p.1 ≤ p.2))) = ((es.zip fs).map fun p => decide (p.1 ≤ p.2)).map D.bl := by rw [List.map_map] <;> rfl
  refine sasg1 (ev_lst1 (av1 (ev_all (bs := (es.zip fs).map fun p => decide (p.1 ≤ p.2)) ?_) (av1 (ev_op1 (ov_sh rfl) (ov_sh rfl) (fEq_ints es fs)) av_nil)) rfl) ?_
  · rw [← e1]
    exact ev_zipP (src_var rfl) rfl z1 fun p hp K1 hK => ⟨_, _, _, rfl, rfl, fLe_nat p.1 p.2, hK⟩
  refine dret1 (ev_op1 (ov_val (ev_lst1 (av1 (nv_divides hR (nv_var rfl h1) (nv_var rfl h2)) (av1 (nv_eq hR (nv_slot rfl h1) (nv_slot rfl h2)) av_nil)) rfl)) (ov_sh rfl) ?_) hQ
  rw [hB, hC]
  exact bl2_eq _ _
end DL
set_option Elab.async false
set_option linter.all false
set_option maxRecDepth 100000
set_option maxHeartbeats 4000000
set_option exponentiation.threshold 10000
/-! Q17c: k17: _law_base_right -/
namespace DL
open PySem PySem.Spec L2 DM
/-! ### plain facts -/
theorem sorted_ext {α : Type} {r : α → α → Prop} (ir : ∀ a, ¬ r a a) (as : ∀ a b, r a b → ¬ r b a) : ∀ {a b : List α}, a.Pairwise r → b.Pairwise r → (∀ k, k ∈ a ↔ k ∈ b) → a = b
  | [], [], _, _, _ => rfl
  | [], y :: b, _, _, h => absurd ((h y).mpr List.mem_cons_self) (by simp)
  | x :: a, [], _, _, h => absurd ((h x).mp List.mem_cons_self) (by simp)
  | x :: a, y :: b, ha, hb, h => by
    obtain ⟨a1, a2⟩ := List.pairwise_cons.mp ha
    obtain ⟨b1, b2⟩ := List.pairwise_cons.mp hb
    have e : x = y := by
      rcases List.mem_cons.mp ((h x).mp List.mem_cons_self) with e | h1
      · exact e
      · rcases List.mem_cons.mp ((h y).mpr List.mem_cons_self) with e | h2
        · exact e.symm
        · exact absurd (b1 x h1) (as _ _ (a1 y h2))
    subst e
    rw [sorted_ext ir as a2 b2 fun k => ⟨fun hk => by
      rcases List.mem_cons.mp ((h k).mp (List.mem_cons_of_mem _ hk)) with e | h1
      · rw [e] at hk
        exact absurd (a1 x hk) (ir x)
      · exact h1, fun hk => by
      rcases List.mem_cons.mp ((h k).mpr (List.mem_cons_of_mem _ hk)) with e | h1
      · rw [e] at hk
        exact absurd (b1 x hk) (ir x)
      · exact h1⟩]
theorem lt_of_le_nodup {l : List Nat} (h : l.Pairwise (· ≤ ·)) (n : l.Nodup) : l.Pairwise (· < ·) := by
  have := List.Pairwise.and h n
  exact this.imp fun {a b} ⟨h1, h2⟩ => by
    have h2 : a ≠ b := h2
    omega
theorem sort_nat (fd : List Nat) : ∃ bs : List Nat, fSorted [.lst (intsD fd)] = some (intsD bs) ∧ bs.Perm fd ∧ bs.Pairwise (· ≤ ·) := by
  refine ⟨(isortI (fd.map fun n : Nat => (n : Int))).map Int.toNat, ?_, ?_, ?_⟩
  · show (intsOf _).map _ = _
    rw [intsOf_nat]
    show some ((isortI (fd.map fun n : Nat => (n : Int))).map D.int) = _
    congr 1
    unfold intsD
    rw [List.map_map]
    apply List.map_congr_left
    intro i hi
    have : i ∈ fd.map fun n : Nat => (n : Int) := (isortI_perm _).mem_iff.mp hi
    obtain ⟨n, _, e⟩ := List.mem_map.mp this
    subst e
    rfl
  · have h1 := (isortI_perm (fd.map fun n : Nat => (n : Int))).map Int.toNat
    have h2 : (fd.map fun n : Nat => (n : Int)).map Int.toNat = fd := by
      rw [List.map_map]
      exact List.map_id'' (fun n => rfl) fd
    rw [h2] at h1
    exact h1
  · exact List.Pairwise.map _ (fun a b h => Int.toNat_le_toNat h) (isortI_le _)
/-- the primes' places of an item -/
def partOf (ps : List Nat) (b : Nat) : List Nat := (List.range ps.length).filter fun k => b % ps.getD k 0 == 0
def usedOf (ps : List Nat) (rows : List (List Nat)) : List Nat := (List.range ps.length).filter fun k => rows.any fun es => decide (0 < es.getD k 0)
theorem range_lt (n : Nat) : (List.range n).Pairwise (· < ·) := List.pairwise_lt_range
theorem getD_ix {l : List Nat} {k : Nat} (h : k < l.length) : l.getD k 0 = l[k] := by
  rw [List.getD_eq_getElem?_getD, List.getElem?_eq_getElem h] <;> rfl
theorem mem_part {ps : List Nat} {b k : Nat} : k ∈ partOf ps b ↔ ∃ h : k < ps.length, ps[k] ∣ b := by
  unfold partOf
  rw [List.mem_filter, List.mem_range]
  constructor
  · rintro ⟨h1, h2⟩
    rw [getD_ix h1] at h2
    exact ⟨h1, Nat.dvd_of_mod_eq_zero (by simpa using h2)⟩
  · rintro ⟨h1, h2⟩
    refine ⟨h1, ?_⟩
    rw [getD_ix h1]
    simpa using Nat.mod_eq_zero_of_dvd h2
theorem part_lt {ps : List Nat} {b : Nat} : (partOf ps b).Pairwise (· < ·) := (range_lt _).filter _
theorem part_nd {ps : List Nat} {b : Nat} : (partOf ps b).Nodup := part_lt.imp fun {a b} h => by
  show a ≠ b
  omega
theorem mem_used {ps : List Nat} {rows : List (List Nat)} {k : Nat} : k ∈ usedOf ps rows ↔ k < ps.length ∧ ∃ es ∈ rows, 0 < es.getD k 0 := by
  unfold usedOf
  rw [List.mem_filter, List.mem_range, List.any_eq_true]
  exact ⟨fun ⟨h1, es, h2, h3⟩ => ⟨h1, es, h2, of_decide_eq_true h3⟩, fun ⟨h1, es, h2, h3⟩ => ⟨h1, es, h2, decide_eq_true h3⟩⟩
theorem mem_spread {ps bs : List Nat} {k : Nat} : k ∈ (bs.map (partOf ps)).flatten ↔ ∃ b ∈ bs, k ∈ partOf ps b := by
  rw [List.mem_flatten]
  exact ⟨fun ⟨l, h1, h2⟩ => by
    obtain ⟨b, h3, rfl⟩ := List.mem_map.mp h1
    exact ⟨b, h3, h2⟩, fun ⟨b, h1, h2⟩ => ⟨_, List.mem_map.mpr ⟨b, h1, rfl⟩, h2⟩⟩
theorem spread_nd {ps : List Nat} (hp : ∀ p ∈ ps, 2 ≤ p) : ∀ {bs : List Nat}, PC bs → ((bs.map (partOf ps)).flatten).Nodup
  | [], _ => List.nodup_nil
  | b :: bs, h => by
    rw [List.map_cons, List.flatten_cons, List.nodup_append]
    refine ⟨part_nd, spread_nd hp h.tail, fun k hk k2 hk2 e => ?_⟩
    subst e
    obtain ⟨g1, g2⟩ := mem_part.mp hk
    obtain ⟨c, hc, hk3⟩ := mem_spread.mp hk2
    obtain ⟨g3, g4⟩ := mem_part.mp hk3
    have co : Nat.gcd b c = 1 := h.head c hc
    have := Nat.le_of_dvd (by rw [co]; decide) (Nat.dvd_gcd g2 g4)
    have := hp ps[k] (List.getElem_mem g1)
    omega
theorem len_flat {ps : List Nat} : ∀ {bs : List Nat}, (∀ b ∈ bs, partOf ps b ≠ []) → bs.length ≤ ((bs.map (partOf ps)).flatten).length
  | [], _ => Nat.zero_le _
  | b :: bs, h => by
    have ih := len_flat (ps := ps) (bs := bs) fun c hc => h c (List.mem_cons_of_mem _ hc)
    rw [List.map_cons, List.flatten_cons, List.length_append, List.length_cons]
    have := List.length_pos_iff.mpr (h b List.mem_cons_self)
    omega
section
variable {ps bs : List Nat} {rows : List (List Nat)}
theorem BsR.part_ne (h : BsR ps bs rows) : ∀ b ∈ bs, partOf ps b ≠ [] := fun b hb z => by
  obtain ⟨p, hp, hd⟩ := h.ne b hb
  obtain ⟨k, hk, e⟩ := List.getElem_of_mem hp
  have : k ∈ partOf ps b := mem_part.mpr ⟨hk, by rw [e]; exact hd⟩
  rw [z] at this
  exact nomatch this
theorem BsR.len7 (hps : GP ps) (h : BsR ps bs rows) : bs.length ≤ 7 := by
  have h1 := len_flat h.part_ne
  have h2 := spread_nd (fun p hp => (hps.ok p hp).1) h.pc
  have h3 := List.Nodup.length_le_of_subset h2 (l₂ := List.range ps.length) fun k hk => by
    obtain ⟨b, _, hk2⟩ := mem_spread.mp hk
    obtain ⟨g, _⟩ := mem_part.mp hk2
    exact List.mem_range.mpr g
  rw [List.length_range] at h3
  have := hps.len
  omega
theorem BsR.used (hps : GP ps) (h : BsR ps bs rows) {s : List Nat} (hp : s.Perm ((bs.map (partOf ps)).flatten)) (hs : s.Pairwise (· ≤ ·)) : s = usedOf ps rows := by
  have nd : s.Nodup := hp.nodup_iff.mpr (spread_nd (fun p hp => (hps.ok p hp).1) h.pc)
  refine sorted_ext (r := (· < ·)) (fun a => Nat.lt_irrefl a) (fun a b h1 h2 => absurd (Nat.lt_trans h1 h2) (Nat.lt_irrefl _)) (lt_of_le_nodup hs nd) ((range_lt _).filter _) fun k => ?_
  rw [hp.mem_iff, mem_spread, mem_used]
  constructor
  · rintro ⟨b, hb, hk⟩
    obtain ⟨g1, g2⟩ := mem_part.mp hk
    exact ⟨g1, (h.hit k g1).mp ⟨b, hb, g2⟩⟩
  · rintro ⟨g1, g2⟩
    obtain ⟨b, hb, g3⟩ := (h.hit k g1).mpr g2
    exact ⟨b, hb, mem_part.mpr ⟨g1, g3⟩⟩
end
/-! ### readings -/
section
variable {e : DEnv} {t u v te : TD} {tt : TDT} {ta tb : TDO} {tf : TDF} {D' : DEnds} {V : TDS} {es fs : List Nat} {i j x : Nat} {a b : D}
theorem fm_if {f : Nat → Bool} : ∀ (l : List Nat), (l.filterMap fun k => if f k = true then some (D.int k) else none) = intsD (l.filter f)
  | [] => rfl
  | a :: l => by
    rw [List.filterMap_cons, List.filter_cons]
    by_cases h : f a = true
    · rw [if_pos h, if_pos h]
      show D.int a :: _ = D.int a :: intsD _
      rw [fm_if l] <;> rfl
    · rw [if_neg h, if_neg h]
      exact fm_if l
theorem ev_rangeF {f : Nat → Bool} {n : Nat} {src : TDI} (hs : ∀ Q : List D → (DEnv → Prop) → DEnv → Prop, Q (intsD (List.range n)) (fun _ => True) e → src e Q) (hw : wipeE e [x] = e) (hl : n ≤ 100000)
    (ht : ∀ k < n, ∀ K1 : Option D → DEnv → Prop, K1 (if f k = true then some (.int k) else none) e → tt (e.set x (.sh (.int k))) fun b e2 => if b = true then te e2 fun y e3 => K1 (some y) (wipeE e3 [x]) else K1 none (wipeE e2 [x])) :
    EV (dNew (fLc src [x] (gN x) tt te)) e (· = .lst (intsD ((List.range n).filter f))) := fun Q hq => hs _ (by
  refine ⟨le_line (by rw [intsD_len, List.length_range]; omega), ?_⟩
  show lcL _ [x] _ _ _ _ (intsD (List.range n)) [] (wipeE e [x])
  rw [hw]
  refine lcL_ints (f := fun k => if f k = true then some (D.int k) else none) trivial (fun k hk K1 hK => ht k (List.mem_range.mp hk) K1 hK) ?_
  rw [List.nil_append, fm_if]
  exact hq _ rfl)
theorem ov_op {d : D} (h : look e (.slot i) = some d) (hs : e[i]? = some (.sh d)) : OV (oSlot i) e (· = d) := ov_sh hs
theorem ev_len {xs : List D} (h : e[i]? = some (.sh (.lst xs))) : EV (dCB fLen (aoCons (oSlot i) aoNil)) e (· = .int xs.length) := fun Q hq => by
  unfold dCB aoCons aoNil
  refine ov_sh h _ fun a d hl hd => ?_
  subst hd
  refine ⟨[.lst xs], _, ?_, rfl, hq _ rfl⟩
  show (match look e a, lookL e [] with
    | some d, some ds => some (d :: ds)
    | _, _ => none) = _
  rw [hl] <;> rfl
theorem src_range {ps : List Nat} (h : e[i]? = some (.sh (.lst (intsD ps)))) (hl : ps.length ≤ 1000) : ∀ Q : List D → (DEnv → Prop) → DEnv → Prop, Q (intsD (List.range ps.length)) (fun _ => True) e → iRange1 (aoCons (oVal (dCB fLen (aoCons (oSlot i) aoNil))) aoNil) e Q := fun Q hq => by
  refine ev_len h _ fun d hd => ?_
  subst hd
  refine ⟨(intsD ps).length, rfl, by omega, by rw [intsD_len]; omega, ?_⟩
  rw [Int.toNat_natCast, intsD_len]
  exact hq
end
theorem fIx_getD {l : List Nat} {k : Nat} (h : k < l.length) : fIx (.lst (intsD l)) (.int k) = some (.int (l.getD k 0 : Nat)) := by rw [fIx_ints h, getD_ix h]
theorem ev_part5 {ps : List Nat} {b : Nat} {X1 X2 X3 X6 X7 X8 X9 : Ent} (hl : ps.length ≤ 1000) (hp : ∀ p ∈ ps, 2 ≤ p) : EV (dNew (fLc (iRange1 (aoCons (oVal (dCB fLen (aoCons (oSlot 0) aoNil))) aoNil)) [5] (gN 5) (dTest (dOp fEq (oVal (dOp fMod (oSlot 4) (oVal (dOp fIx (oSlot 0) (oSlot 5))))) (oVal (dC (.int 0))))) (dVar 5)))
    [.sh (.lst (intsD ps)), X1, X2, X3, .sh (.int b), .un, X6, X7, X8, X9] (· = .lst (intsD (partOf ps b))) := by
  refine ev_rangeF (f := fun k => b % ps.getD k 0 == 0) (src_range rfl hl) rfl (by omega) fun k hk K1 hK => ?_
  have h2 := hp ps[k] (List.getElem_mem hk)
  rw [← getD_ix hk] at h2
  refine ⟨_, _, _, rfl, rfl, fIx_getD hk, _, _, _, rfl, rfl, fMod_nat (by omega), _, _, _, rfl, rfl, fEq_int _ _, _, rfl, ?_⟩
  have e1 : (((b % ps.getD k 0 : Nat) : Int) == 0) = (b % ps.getD k 0 == 0) := by
    rw [Bool.eq_iff_iff]
    simp
    omega
  rw [e1]
  by_cases h : (b % ps.getD k 0 == 0) = true
  · rw [if_pos h] at hK
    rw [h]
    exact hK
  · rw [if_neg h] at hK
    rw [Bool.not_eq_true] at h
    rw [h]
    exact hK
def rowsD (rows : List (List Nat)) : List D := rows.map fun es => D.lst (intsD es)
theorem maxLN : ∀ {ns : List Nat}, ns ≠ [] → ∃ m : Nat, maxL (ns.map fun n : Nat => (n : Int)) = some (m : Int) ∧ m ∈ ns ∧ ∀ n ∈ ns, n ≤ m
  | [], h => absurd rfl h
  | n :: ns, _ => by
    obtain ⟨h1, h2, h3⟩ := foldl_max (ns.map fun n : Nat => (n : Int)) (n : Int)
    refine ⟨((ns.map fun n : Nat => (n : Int)).foldl max (n : Int)).toNat, ?_, ?_, ?_⟩
    · show some ((ns.map fun n : Nat => (n : Int)).foldl max (n : Int)) = _
      congr 1
      omega
    · rcases h1 with h1 | h1
      · rw [h1]
        have : (n : Int).toNat = n := by omega
        rw [this]
        exact List.mem_cons_self
      · obtain ⟨m, hm, e⟩ := List.mem_map.mp h1
        rw [← e]
        have : (m : Int).toNat = m := by omega
        rw [this]
        exact List.mem_cons_of_mem _ hm
    · intro k hk
      rcases List.mem_cons.mp hk with e | hk
      · subst e
        omega
      · have := h3 (k : Int) (List.mem_map.mpr ⟨k, hk, rfl⟩)
        omega
theorem fMaxN {ns : List Nat} (h : ns ≠ []) : ∃ m : Nat, fMaxB [.lst (intsD ns)] = some (.int (m : Int)) ∧ m ∈ ns ∧ ∀ n ∈ ns, n ≤ m := by
  obtain ⟨m, h1, h2, h3⟩ := maxLN h
  refine ⟨m, ?_, h2, h3⟩
  show (intsOf (intsD ns)).bind (fun ns => (maxL ns).map D.int) = _
  rw [intsOf_nat]
  show (maxL _).map D.int = _
  rw [h1] <;> rfl
theorem fm_none2 {α : Type} (f : α → D) : ∀ l : List α, l.filterMap (fun x => some (f x)) = l.map f := fun l => fm_some f l
theorem ev_used {ps : List Nat} {rows : List (List Nat)} {X1 X3 X4 X6 X8 X9 : Ent} (hl : ps.length ≤ 1000) (hr : rows ≠ []) (hrl : rows.length ≤ 10) (hn : ∀ es ∈ rows, es.length = ps.length) : EV (dNew (fLc (iRange1 (aoCons (oVal (dCB fLen (aoCons (oSlot 0) aoNil))) aoNil)) [5] (gN 5) (dTest (dOp fGt (oVal (dCB fMaxB (aoCons (oVal (dNew (fLc (iSeqD (dVar 2)) [7] (gN 7) dYes (dOp fIx (oSlot 7) (oSlot 5))))) aoNil))) (oVal (dC (.int 0))))) (dVar 5)))
    [.sh (.lst (intsD ps)), X1, .sh (.lst (rowsD rows)), X3, X4, .un, X6, .un, X8, X9] (· = .lst (intsD (usedOf ps rows))) := by
  refine ev_rangeF (f := fun k => rows.any fun es => decide (0 < es.getD k 0)) (src_range rfl hl) rfl (by omega) fun k hk K1 hK => ?_
  refine ⟨_, rfl, le_line (by unfold rowsD; rw [List.length_map]; omega), ?_⟩
  show lcL _ [7] _ _ _ _ (rows.map fun es => D.lst (intsD es)) [] [.sh (.lst (intsD ps)), X1, .sh (.lst (rowsD rows)), X3, X4, .sh (.int k), X6, .un, X8, X9]
  refine lcL_mapR (hD := fun n : Nat => D.int n) (P := fun (es : List Nat) (n : Nat) => n = es.getD k 0) trivial (fun es hes K2 hK2 => ?_) fun ns hns => ?_
  · refine ⟨_, _, _, rfl, rfl, fIx_getD (by rw [hn es hes]; exact hk), hK2 _ rfl⟩
  · rw [List.nil_append]
    have e0 : ns = rows.map fun es => es.getD k 0 := by
      have gen : ∀ (a : List (List Nat)) (b : List Nat), F2 (fun (es : List Nat) (n : Nat) => n = es.getD k 0) a b → b = a.map fun es => es.getD k 0 := by
        intro a
        induction a with
        | nil => intro b h; cases b with
          | nil => rfl
          | cons _ _ => exact h.elim
        | cons x a ih => intro b h; cases b with
          | nil => exact h.elim
          | cons y b => rw [List.map_cons, h.1, ← ih b h.2]
      exact gen _ _ hns
    subst e0
    obtain ⟨m, f1, f2, f3⟩ := fMaxN (ns := rows.map fun es => es.getD k 0) (by simpa using hr)
    refine ⟨_, _, rfl, f1, _, _, _, rfl, rfl, fGt_nat m 0, _, rfl, ?_⟩
    have e1 : decide (0 < m) = rows.any fun es => decide (0 < es.getD k 0) := by
      rw [Bool.eq_iff_iff, List.any_eq_true, decide_eq_true_iff]
      constructor
      · intro h
        obtain ⟨es, he, e⟩ := List.mem_map.mp f2
        exact ⟨es, he, decide_eq_true (by rw [e]; exact h)⟩
      · rintro ⟨es, he, h⟩
        have h4 := f3 _ (List.mem_map.mpr ⟨es, he, rfl⟩)
        have h5 := of_decide_eq_true h
        omega
    rw [e1]
    by_cases h : (rows.any fun es => decide (0 < es.getD k 0)) = true
    · rw [if_pos h] at hK
      rw [h]
      exact hK
    · rw [if_neg h] at hK
      rw [Bool.not_eq_true] at h
      rw [h]
      exact hK
theorem sp_for {F : DEnds} {X0 X1 X2 X3 X4 X5 X6 X7 : Ent} : ∀ (pl : List (List Nat)) (acc : List Nat) (t9 : Ent), acc.length + (pl.flatten).length ≤ 100000 → (∀ t9, F.nx [X0, X1, X2, X3, X4, X5, X6, X7, .sh (.lst (intsD (acc ++ pl.flatten))), t9]) →
    forL (fun _ => True) (gN 9) (dAsg (dNew (fCat (oSlot 8) (oSlot 9))) (gN 8)) F (rowsD pl) [X0, X1, X2, X3, X4, X5, X6, X7, .sh (.lst (intsD acc)), t9]
  | [], acc, t9, _, hQ => ⟨trivial, by have := hQ t9; rwa [List.flatten_nil, List.append_nil] at this⟩
  | p :: pl, acc, t9, hl, hQ => by
    rw [List.flatten_cons, List.length_append] at hl
    refine ⟨trivial, _, _, rfl, rfl, le_line (by rw [intsD_len, intsD_len]; omega), ?_⟩
    rw [intsD_app]
    refine sp_for pl (acc ++ p) _ (by rw [List.length_append]; omega) fun t9 => ?_
    rw [List.append_assoc]
    have := hQ t9
    rwa [List.flatten_cons] at this
theorem toPy_rows : ∀ (pl : List (List Nat)), toPyL (rowsD pl) = some (pl.map fun l => PyData.list (l.map fun n : Nat => PyData.int n))
  | [] => rfl
  | p :: pl => by
    show (match toPy (.lst (intsD p)), toPyL (rowsD pl) with
      | some x, some xs => some (x :: xs)
      | _, _ => none) = _
    rw [toPy_rows pl]
    have : toPy (.lst (intsD p)) = some (.list (p.map fun n : Nat => PyData.int n)) := by
      show (toPyL (intsD p)).map PyData.list = _
      rw [toPy_ints] <;> rfl
    rw [this] <;> rfl
theorem lay_rows : ∀ (pl : List (List Nat)), PyData.canLayAll0 (pl.map fun l => PyData.list (l.map fun n : Nat => PyData.int n)) = true ∧ PyData.depthAll (pl.map fun l => PyData.list (l.map fun n : Nat => PyData.int n)) ≤ 1
  | [] => ⟨rfl, by rw [List.map_nil, PyData.depthAll]; omega⟩
  | p :: pl => by
    obtain ⟨a, b⟩ := lay_rows pl
    refine ⟨?_, ?_⟩
    · show (PyData.canLay0 (.list (p.map fun n : Nat => PyData.int n)) && PyData.canLayAll0 (pl.map fun l => PyData.list (l.map fun n : Nat => PyData.int n))) = true
      rw [a, PyData.canLay0, lay_ints] <;> rfl
    · rw [List.map_cons, PyData.depthAll, PyData.depth, dep_ints]
      omega
theorem fNotIn_nil {pl : List (List Nat)} (h : ∀ l ∈ pl, l ≠ []) : fNotIn (.lst []) (.lst (rowsD pl)) = some (.bl true) := by
  unfold fNotIn inD
  have e1 : toPy (.lst (rowsD pl)) = some (.list (pl.map fun l => PyData.list (l.map fun n : Nat => PyData.int n))) := by
    show (toPyL _).map PyData.list = _
    rw [toPy_rows] <;> rfl
  have e2 : toPy (.lst []) = some (.list []) := rfl
  show (match toPy (.lst []), toPy (.lst (rowsD pl)) with
    | some x, some (.list ys) => if SeqAt.shaped x = true ∧ SeqAt.shaped (.list ys) = true then some (ys.any fun z => PyData.eqv z x) else none
    | _, _ => none).map (fun z => D.bl (!z)) = _
  rw [e1, e2]
  obtain ⟨a, b⟩ := lay_rows pl
  have s1 : SeqAt.shaped (.list (pl.map fun l => PyData.list (l.map fun n : Nat => PyData.int n))) = true := by
    unfold SeqAt.shaped
    rw [PyData.depth, PyData.canLay0, a]
    simp
    omega
  show (if SeqAt.shaped (.list []) = true ∧ SeqAt.shaped (.list (pl.map fun l => PyData.list (l.map fun n : Nat => PyData.int n))) = true then some ((pl.map fun l => PyData.list (l.map fun n : Nat => PyData.int n)).any fun z => PyData.eqv z (.list [])) else none).map (fun z => D.bl (!z)) = _
  rw [if_pos ⟨shp_nil, s1⟩]
  have : ((pl.map fun l => PyData.list (l.map fun n : Nat => PyData.int n)).any fun z => PyData.eqv z (.list [])) = false := by
    rw [List.any_eq_false]
    intro z hz
    obtain ⟨l, hl, rfl⟩ := List.mem_map.mp hz
    have hne := h l hl
    cases l with
    | nil => exact absurd rfl hne
    | cons n l => rw [PyData.eqv, List.map_cons, PyData.eqvAll]; simp
  rw [this] <;> rfl
theorem ev_parts {ps bs : List Nat} {rows : List (List Nat)} (hl : ps.length ≤ 1000) (hp2 : ∀ p ∈ ps, 2 ≤ p) (hb : bs.length ≤ 7) : EV (dNew (fLc (iSeqD (dVar 1)) [4] (gN 4) dYes (dNew (fLc (iRange1 (aoCons (oVal (dCB fLen (aoCons (oSlot 0) aoNil))) aoNil)) [5] (gN 5) (dTest (dOp fEq (oVal (dOp fMod (oSlot 4) (oVal (dOp fIx (oSlot 0) (oSlot 5))))) (oVal (dC (.int 0))))) (dVar 5)))))
    (startE 10 [.lst (intsD ps), .tup (intsD bs), .lst (rowsD rows)]) (· = .lst (rowsD (bs.map (partOf ps)))) := fun Q hq => by
  refine ⟨_, rfl, le_line (by rw [intsD_len]; omega), ?_⟩
  show lcL _ [4] _ _ _ _ (bs.map fun n : Nat => D.int n) [] [.sh (.lst (intsD ps)), .sh (.tup (intsD bs)), .sh (.lst (rowsD rows)), .un, .un, .un, .un, .un, .un, .un]
  refine lcL_mapR (hD := fun l : List Nat => D.lst (intsD l)) (P := fun (b : Nat) (l : List Nat) => l = partOf ps b) trivial (fun b hb K1 hK => ?_) fun pl hpl => ?_
  · exact ev_part5 (ps := ps) (b := b) (X1 := .sh (.tup (intsD bs))) (X2 := .sh (.lst (rowsD rows))) (X3 := .un) (X6 := .un) (X7 := .un) (X8 := .un) (X9 := .un) hl hp2 (fun d e3 => K1 (some d) (wipeE e3 [4])) fun d hd => by
      subst hd
      exact hK _ rfl
  · have e0 : pl = bs.map (partOf ps) := by
      have gen : ∀ (a : List Nat) (b : List (List Nat)), F2 (fun (b : Nat) (l : List Nat) => l = partOf ps b) a b → b = a.map (partOf ps) := by
        intro a
        induction a with
        | nil => intro b h; cases b with
          | nil => rfl
          | cons _ _ => exact h.elim
        | cons x a ih => intro b h; cases b with
          | nil => exact h.elim
          | cons y b => rw [List.map_cons, h.1, ← ih b h.2]
      exact gen _ _ hpl
    subst e0
    exact hq _ rfl
theorem does_law_base_right : Does 10 rd_law_base_right sp_law_base_right := by
  rintro ds Q ⟨ps, bs, rows, rfl, hps, hr, hrl, hn, hB, hQ⟩
  have hl7 := hps.len
  have hp2 : ∀ p ∈ ps, 2 ≤ p := fun p hp => (hps.ok p hp).1
  have hb7 := hB.len7 hps
  unfold rd_law_base_right
  refine sasg1 (ev_parts (rows := rows) (by omega) hp2 hb7) ?_
  refine sasg1 (ev_used (by omega) hr hrl hn) ?_
  refine sasg1 (ev_lst1 av_nil rfl) ?_
  have hfl : ((bs.map (partOf ps)).flatten).length ≤ 100000 := by
    have h2 := spread_nd hp2 hB.pc
    have h3 := List.Nodup.length_le_of_subset h2 (l₂ := List.range ps.length) fun k hk => by
      obtain ⟨b, _, hk2⟩ := mem_spread.mp hk
      obtain ⟨g, _⟩ := mem_part.mp hk2
      exact List.mem_range.mpr g
    rw [List.length_range] at h3
    omega
  refine ⟨_, rfl, ?_⟩
  refine sp_for (bs.map (partOf ps)) [] _ (by rw [List.length_nil]; omega) fun t9 => ?_
  rw [List.nil_append]
  obtain ⟨s, f1, f2, f3⟩ := sort_nat ((bs.map (partOf ps)).flatten)
  have e1 := hB.used hps f2 f3
  refine ⟨_, _, rfl, f1, _, _, _, rfl, rfl, fEq_ints s _, _, rfl, ?_⟩
  rw [decide_eq_true e1]
  refine ⟨len_line rfl, _, _, _, rfl, rfl, fNotIn_nil (fun l hl => ?_), _, rfl, ?_⟩
  · obtain ⟨b, hb, rfl⟩ := List.mem_map.mp hl
    exact hB.part_ne b hb
  · refine ⟨_, _, rfl, rfl, bs.map (fun n : Nat => (n : Int)), ?_, by rw [List.length_map]; omega, fun ms m1 m2 => ?_⟩
    · show some (D.tup (intsD bs)) = _
      unfold intsD
      rw [List.map_map] <;> rfl
    · have nd : bs.Nodup := hB.pc.co.imp_of_mem fun {a c} ha hc hac hac' => by
        subst hac'
        have h1 : Nat.gcd a a = 1 := hac
        rw [Nat.gcd_self] at h1
        have := hB.pc.gt a ha
        omega
      have e2 : ms = bs.map fun n : Nat => (n : Int) := by
        refine sorted_ext (r := (· < ·)) (fun a => Int.lt_irrefl a) (fun a b h1 h2 => absurd (Int.lt_trans h1 h2) (Int.lt_irrefl _)) m1 ?_ m2
        exact List.Pairwise.map _ (fun a b h => by omega) (lt_of_le_nodup hB.srt nd)
      have e3 : ms.map D.int = intsD bs := by
        rw [e2]
        unfold intsD
        rw [List.map_map] <;> rfl
      rw [e3]
      refine ⟨_, _, _, rfl, rfl, fEq_ints bs bs, ?_⟩
      rw [decide_eq_true rfl]
      exact hQ
end DL
set_option Elab.async false
set_option linter.all false
set_option maxRecDepth 100000
set_option maxHeartbeats 4000000
set_option exponentiation.threshold 10000
/-! Q17d: k17: one turn -/
namespace DL
open PySem PySem.Spec L2 DM
def rtB : TDS := (dSeq (dAsg (dOp fMod (oVal (dOp fAdd (oSlot 8) (oVal (dC (.int 1))))) (oVal (dC (.int 3)))) (gN 9)) (dSeq (dIfS (dNot (dTru (oVal (dApp sp_law_pair_right (aCons (dVar 1) (aCons (dOp fIx (oSlot 4) (oSlot 8)) (aCons (dOp fIx (oSlot 4) (oSlot 9)) (aCons (dOp fIx (oSlot 5) (oSlot 8)) (aCons (dOp fIx (oSlot 5) (oSlot 9)) aNil))))))))) (dRet (dC (.bl false))) dNext) (dSeq (dAsg (dOp fIx (oVal (dOp fIx (oVal (dOp fIx (oVal (dOp fIx (oSlot 2) (oSlot 8))) (oVal (dC (.int 0))))) (oVal (dC (.int 0))))) (oVal (dC (.int 0)))) (gN 10)) (dSeq (dAsg (dNew (fLc (iRange1 (aoCons (oVal (dCB fLen (aoCons (oSlot 1) aoNil))) aoNil)) [14] (gN 14) (dTest (dOp fEq (oVal (dOp fMod (oSlot 10) (oVal (dOp fIx (oSlot 1) (oSlot 14))))) (oVal (dC (.int 0))))) (dVar 14))) (gN 11)) (dSeq (dAsg (dOp fAdd (oVal (dCB fIntB (aoCons (oVal (dOp fEq (oVal (dCB fLen (aoCons (oSlot 11) aoNil))) (oVal (dC (.int 1))))) aoNil))) (oVal (dC (.int 1)))) (gN 12)) (dSeq (dAsg (dCB fMinB (aoCons (oVal (dNew (fLc (iSeqD (dVar 11)) [14] (gN 14) dYes (dOp fFdiv (oVal (dOp fIx (oVal (dOp fIx (oSlot 5) (oSlot 9))) (oSlot 14))) (oSlot 12))))) aoNil)) (gN 13)) (dSeq (dIfS (dOr (dTest (dOp fNe (oVal (dApp sp_exponent_in (aCons (dOp fIx (oSlot 4) (oSlot 9)) (aCons (dVar 10) aNil)))) (oSlot 13))) (dTest (dOp fNe (oVal (dOwnIn "Number" sp_contains (dVar 10) (oVal (dOp fIx (oSlot 4) (oSlot 9))))) (oVal (dOp fGt (oSlot 13) (oVal (dC (.int 0)))))))) (dRet (dC (.bl false))) dNext) (dSeq (dIfS (dNot (dTru (oVal (dApp sp_law_is (aCons (dApp sp_root (aCons (dOwnOp "Number" sp_mul (oVal (dOp fIx (oSlot 4) (oSlot 8))) (oVal (dOp fIx (oSlot 4) (oSlot 8)))) (aCons (dC (.int 2)) aNil))) (aCons (dVar 1) (aCons (dOp fIx (oSlot 5) (oSlot 8)) aNil))))))) (dRet (dC (.bl false))) dNext) (dIfS (dTest (dOp fNe (oVal (dOp fMod (oVal (dOp fIx (oVal (dApp sp_greatest_root (aCons (dOwnOp "Number" sp_mul (oVal (dOp fIx (oSlot 4) (oSlot 8))) (oVal (dOp fIx (oSlot 4) (oSlot 8)))) aNil))) (oVal (dC (.int 1))))) (oVal (dC (.int 2))))) (oVal (dC (.int 0))))) (dRet (dC (.bl false))) dNext)))))))))
theorem rd_law_right_eq : rd_law_right = (dSeq (dAsg (dNew (fSl (oVal (dApp sp_law_mixed (aCons (dVar 0) (aCons (dApp0 sp_law_great) aNil)))) dNoPart (dPart (oVal (dOp fAdd (oVal (dC (.int 3))) (oVal (dApp sp_law_draw (aCons (dVar 0) (aCons (dC (.int 4)) aNil))))))))) (gN 1)) (dSeq (dAsg (dNew (fLc (iRange1 (aoCons (oVal (dC (.int 3))) aoNil)) [3] (gN 3) dYes (dApp sp_law_written (aCons (dVar 0) (aCons (dVar 1) (aCons (dOp fAdd (oVal (dC (.int 1))) (oVal (dApp sp_law_draw (aCons (dVar 0) (aCons (dC (.int 3)) aNil))))) aNil)))))) (gN 2)) (dSeq (dPair (aCons (dNew (fLc (iSeqD (dVar 2)) [6, 7] (gTupD 2 (gConsD (gN 6) (gConsD (gN 7) gNilD))) dYes (dApp sp_law_num17 (aCons (dVar 6) aNil)))) (aCons (dNew (fLc (iSeqD (dVar 2)) [6, 7] (gTupD 2 (gConsD (gN 6) (gConsD (gN 7) gNilD))) dYes (dVar 7))) aNil)) 4 5) (dSeq (dFor (iRange1 (aoCons (oVal (dC (.int 3))) aoNil)) (gN 8) rtB) (dRet (dApp sp_law_base_right (aCons (dVar 1) (aCons (dApp sp_coprime_base (aCons (dOp fIx (oSlot 4) (oVal (dC (.int 0)))) (aCons (dOp fIx (oSlot 4) (oVal (dC (.int 1)))) (aCons (dOp fIx (oSlot 4) (oVal (dC (.int 2)))) aNil)))) (aCons (dVar 5) aNil))))))))) := rfl

/-! ### plain facts -/
theorem prm_mon {bs : List Nat} {p x : Nat} (hp : Prm p) (h : Mon bs x) : p ∣ x → ∃ b ∈ bs, p ∣ b := by
  induction h with
  | one =>
    intro hd
    have := Nat.le_of_dvd Nat.one_pos hd
    have := hp.1
    omega
  | @mul s x hs _ ih =>
    intro hd
    by_cases h1 : p ∣ s
    · exact ⟨s, hs, h1⟩
    · exact ih (Nat.Coprime.dvd_of_dvd_mul_left (Nat.Coprime.symm (hp.2 s h1)) hd)
theorem mon_val {bs : List Nat} : ∀ {w : List (Nat × Nat)}, (∀ p ∈ w, Mon bs p.1) → Mon bs (val w)
  | [], _ => .one
  | p :: w, h => ((h p List.mem_cons_self).pow p.2).prod (mon_val fun q hq => h q (List.mem_cons_of_mem _ hq))
structure RowK (ps : List Nat) (r : List (Nat × Nat) × List Nat) : Prop where
  wf : WF gR r.1
  ln : r.2.length = ps.length
  vl : val r.1 = pp ps r.2
theorem hit_pp {ps es : List Nat} (hps : GP ps) (hl : es.length = ps.length) {k : Nat} (h : k < ps.length) : ps[k] ∣ pp ps es ↔ 0 < es.getD k 0 := by
  obtain ⟨m, e1, e2, e3⟩ := pp_split hps.pc hl k h (by omega)
  rw [getD_ix (by omega)]
  constructor
  · intro hd
    rcases Nat.eq_zero_or_pos es[k] with z | z
    · rw [e1, z, Nat.pow_zero, Nat.one_mul] at hd
      exact absurd hd e2
    · exact z
  · intro hz
    rw [e1]
    exact Nat.dvd_trans ⟨ps[k] ^ (es[k] - 1), by rw [← Nat.pow_succ']; congr 1; omega⟩ (Nat.dvd_mul_right _ _)
theorem bsR_of {ps bs : List Nat} {rs : List (List (Nat × Nat) × List Nat)} (hps : GP ps) (hr : ∀ r ∈ rs, RowK ps r) (h : Refd (basesL (rs.map (·.1))) bs) : BsR ps bs (rs.map (·.2)) := by
  have hw : ∀ w ∈ rs.map (·.1), WF gR w := fun w hw => by
    obtain ⟨r, h1, rfl⟩ := List.mem_map.mp hw
    exact (hr r h1).wf
  obtain ⟨hB, hm⟩ := refdN_ok hw h
  have fb : ∀ b ∈ bs, ∃ r ∈ rs, b ∣ val r.1 := fun b hb => by
    obtain ⟨x, hx, _, hd⟩ := h.dvd b hb
    obtain ⟨w, h1, h2⟩ := List.mem_flatMap.mp hx
    obtain ⟨r, h3, rfl⟩ := List.mem_map.mp h1
    obtain ⟨p, h4, rfl⟩ := List.mem_map.mp h2
    exact ⟨r, h3, Nat.dvd_trans hd (val_dvd1 h4 ((hr r h3).wf.ok p h4).2)⟩
  refine ⟨h.pc, h.srt, fun k hk => ?_, fun b hb => ?_, Nat.le_trans (hB.len gR_ok) (by decide)⟩
  · constructor
    · rintro ⟨b, hb, hd⟩
      obtain ⟨r, h1, h2⟩ := fb b hb
      refine ⟨r.2, List.mem_map.mpr ⟨r, h1, rfl⟩, (hit_pp hps (hr r h1).ln hk).mp ?_⟩
      rw [← (hr r h1).vl]
      exact Nat.dvd_trans hd h2
    · rintro ⟨es, he, h1⟩
      obtain ⟨r, h2, rfl⟩ := List.mem_map.mp he
      have h3 := (hit_pp hps (hr r h2).ln hk).mpr h1
      rw [← (hr r h2).vl] at h3
      exact prm_mon (hps.prm _ (List.getElem_mem hk)) (mon_val (hm r.1 (List.mem_map.mpr ⟨r, h2, rfl⟩))) h3
  · obtain ⟨r, h1, h2⟩ := fb b hb
    apply Classical.byContradiction
    intro hn
    have e1 := left_one hps (es := r.2) (L := b) (by rw [← (hr r h1).vl]; exact h2) fun q hq hd => hn ⟨q, hq, hd⟩
    have := h.pc.gt b hb
    omega
/-! ### the places of a base -/
def sqOf (S : List Nat) : Nat := (if S.length == 1 then 1 else 0) + 1
theorem spots_ok {ps : List Nat} (hps : GP ps) {a b : Nat} (ha : a ∈ ps) (hb : b ∈ ps) : partOf ps (a * b) ≠ [] ∧ ∀ es : List Nat, es.length = ps.length → ∀ due, (∃ k ∈ partOf ps (a * b), due = es.getD k 0 / sqOf (partOf ps (a * b))) → (∀ k ∈ partOf ps (a * b), due ≤ es.getD k 0 / sqOf (partOf ps (a * b))) →
    ∀ m, (a * b) ^ m ∣ pp ps es ↔ m ≤ due := by
  obtain ⟨i, hi, rfl⟩ := List.getElem_of_mem ha
  obtain ⟨j, hj, rfl⟩ := List.getElem_of_mem hb
  have pw : PWr ps [] (List.replicate ps.length 0) := ⟨fun p hp => (nomatch hp), by simp, (pp_zeros ps).symm⟩
  have st := pw.step hi hj (Nat.le_refl 1) (by decide)
  obtain ⟨ss, hss⟩ : ∃ ss, ss = ((List.replicate ps.length 0).set i ((List.replicate ps.length 0)[i]'(by rw [pw.el]; exact hi) + 1)).set j (((List.replicate ps.length 0).set i ((List.replicate ps.length 0)[i]'(by rw [pw.el]; exact hi) + 1))[j]'(by rw [List.length_set, pw.el]; exact hj) + 1) := ⟨_, rfl⟩
  rw [← hss] at st
  have sl := st.el
  have sv : ps[i] * ps[j] = pp ps ss := by
    rw [← st.vl]
    show _ = (ps[i] * ps[j]) ^ 1 * 1
    rw [Nat.pow_one, Nat.mul_one]
  have sg : ∀ k (h : k < ss.length), ss[k] = (if i = k then 1 else 0) + (if j = k then 1 else 0) := fun k h => by
    subst hss
    rw [List.getElem_set]
    by_cases h1 : j = k
    · rw [if_pos h1, if_pos h1, List.getElem_set]
      subst h1
      by_cases h2 : i = j
      · rw [if_pos h2, if_pos h2]
        simp
      · rw [if_neg h2, if_neg h2]
        simp
    · rw [if_neg h1, if_neg h1, List.getElem_set]
      by_cases h2 : i = k
      · rw [if_pos h2, if_pos h2]
        simp
      · rw [if_neg h2, if_neg h2]
        simp
  have mem : ∀ k, k ∈ partOf ps (ps[i] * ps[j]) ↔ k = i ∨ k = j := fun k => by
    rw [mem_part, sv]
    constructor
    · rintro ⟨h1, h2⟩
      have h3 := (hit_pp hps sl h1).mp h2
      rw [getD_ix (by omega), sg k (by omega)] at h3
      by_cases g1 : i = k
      · exact .inl g1.symm
      · by_cases g2 : j = k
        · exact .inr g2.symm
        · rw [if_neg g1, if_neg g2] at h3
          omega
    · intro h1
      have h2 : k < ps.length := by
        rcases h1 with h1 | h1
        · rw [h1]
          exact hi
        · rw [h1]
          exact hj
      refine ⟨h2, (hit_pp hps sl h2).mpr ?_⟩
      rw [getD_ix (by omega), sg k (by omega)]
      rcases h1 with h1 | h1
      · rw [if_pos h1.symm]
        omega
      · rw [if_pos h1.symm]
        omega
  have sq : ∀ k (h : k < ss.length), k = i ∨ k = j → ss[k] = sqOf (partOf ps (ps[i] * ps[j])) := fun k h hk => by
    rw [sg k h]
    by_cases hij : i = j
    · have e1 : partOf ps (ps[i] * ps[j]) = [i] := by
        refine sorted_ext (r := (· < ·)) (fun a => Nat.lt_irrefl a) (fun a b h1 h2 => absurd (Nat.lt_trans h1 h2) (Nat.lt_irrefl _)) part_lt (List.pairwise_singleton _ _) fun k => ?_
        rw [mem, List.mem_singleton]
        constructor
        · rintro (g | g)
          · exact g
          · rw [g, hij]
        · exact .inl
      rw [e1]
      have hk1 : i = k := by
        rcases hk with g | g
        · exact g.symm
        · rw [g, hij]
      rw [if_pos hk1, if_pos (hij ▸ hk1)]
      rfl
    · have e1 : ((partOf ps (ps[i] * ps[j])).length == 1) = false := by
        rw [beq_eq_false_iff_ne]
        intro h1
        obtain ⟨c, hc⟩ := List.length_eq_one_iff.mp h1
        have m1 := (mem i).mpr (.inl rfl)
        have m2 := (mem j).mpr (.inr rfl)
        rw [hc, List.mem_singleton] at m1 m2
        exact hij (m1.trans m2.symm)
      unfold sqOf
      rw [e1]
      rcases hk with g | g
      · rw [if_pos g.symm, if_neg fun z => hij (g.symm.trans z.symm)]
        rfl
      · rw [if_pos g.symm, if_neg fun z => hij (z.trans g)]
        rfl
  refine ⟨fun z => ?_, fun es hl due ⟨k0, hk0, e0⟩ hmin m => ?_⟩
  · have := (mem i).mpr (.inl rfl)
    rw [z] at this
    exact nomatch this
  · have hsq : 0 < sqOf (partOf ps (ps[i] * ps[j])) := by unfold sqOf; omega
    generalize hS : sqOf (partOf ps (ps[i] * ps[j])) = q at *
    rw [sv, ← pp_pow, pp_dvd hps.pc (by rw [List.length_map]; exact sl) hl]
    constructor
    · intro h
      have hk := (mem k0).mp hk0
      have hkn : k0 < ps.length := by
        rcases hk with g | g
        · rw [g]
          exact hi
        · rw [g]
          exact hj
      have h1 := h k0 (by rw [List.length_map]; omega) (by omega)
      rw [List.getElem_map, sq k0 (by omega) hk] at h1
      rw [e0, getD_ix (by omega), Nat.le_div_iff_mul_le hsq, Nat.mul_comm]
      exact h1
    · intro h k h1 h2
      rw [List.length_map] at h1
      rw [List.getElem_map]
      by_cases hk : k = i ∨ k = j
      · rw [sq k h1 hk]
        have h3 := hmin k ((mem k).mpr hk)
        rw [getD_ix (by omega)] at h3
        have h4 := (Nat.le_div_iff_mul_le hsq).mp (Nat.le_trans h h3)
        rw [Nat.mul_comm]
        exact h4
      · rw [sg k h1, if_neg fun z => hk (.inl z.symm), if_neg fun z => hk (.inr z.symm)]
        omega
theorem val_le2 : ∀ {w : List (Nat × Nat)} {B : Nat}, (∀ p ∈ w, p.1 ≤ 10 ^ 20 ∧ p.2 ≤ B) → val w ≤ 2 ^ (67 * (w.length * B))
  | [], B, _ => Nat.one_le_two_pow
  | p :: w, B, h => by
    obtain ⟨h1, h2⟩ := h p List.mem_cons_self
    have ih := val_le2 (w := w) (B := B) fun q hq => h q (List.mem_cons_of_mem _ hq)
    have a1 : p.1 ≤ 2 ^ 67 := Nat.le_trans h1 (by decide)
    have a2 : p.1 ^ p.2 ≤ 2 ^ (67 * B) := by
      rw [Nat.pow_mul]
      exact Nat.le_trans (Nat.pow_le_pow_left a1 _) (Nat.pow_le_pow_right (Nat.pow_pos (by decide)) h2)
    show p.1 ^ p.2 * val w ≤ _
    have e : 67 * ((p :: w).length * B) = 67 * B + 67 * (w.length * B) := by
      rw [List.length_cons, Nat.add_mul, Nat.one_mul, Nat.mul_add, Nat.add_comm]
    rw [e, Nat.pow_add]
    exact Nat.mul_le_mul a2 ih
theorem Wr.row {ps es : List Nat} {w : List (Nat × Nat)} (hps : GP ps) (h : Wr ps w es) : RowK ps (w, es) := by
  refine ⟨⟨fun p hp => ?_, by have := h.ln; show w.length ≤ 4096; omega⟩, h.el, h.vl⟩
  obtain ⟨⟨a, ha, b, hb, e⟩, h1, _⟩ := h.ok p hp
  have oa := hps.ok a ha
  have ob := hps.ok b hb
  have la : a ≤ 9999999967 := by
    have : ∀ p ∈ gps, p ≤ 9999999967 := by decide
    exact this a (hps.mem a ha)
  have lb : b ≤ 9999999967 := by
    have : ∀ p ∈ gps, p ≤ 9999999967 := by decide
    exact this b (hps.mem b hb)
  rw [e]
  refine ⟨⟨?_, ?_, 2, ?_⟩, h1⟩
  · exact Nat.le_trans oa.1 (Nat.le_mul_of_pos_right _ (by omega))
  · exact Nat.le_trans (Nat.mul_le_mul la lb) (by decide)
  · rw [Nat.pow_two]
    exact Nat.mul_dvd_mul oa.2.2 ob.2.2
end DL
set_option Elab.async false
set_option linter.all false
set_option maxRecDepth 100000
set_option maxHeartbeats 4000000
set_option exponentiation.threshold 10000
/-! Q17e: k17: _law_right, law -/
namespace DL
open PySem PySem.Spec L2 DM
section
variable {e : DEnv} {t u v t1 t2 t3 t4 t5 te : TD} {ta tb : TDO} {i j : Nat}
theorem fIx_map {α : Type} {f : α → D} {rs : List α} {k : Nat} (h : k < rs.length) : fIx (.lst (rs.map f)) (.int k) = some (f rs[k]) := by
  have h2 : k < (rs.map f).length := by rw [List.length_map]; exact h
  rw [fIx_lst h2, List.getElem_map]
theorem ev_ixm {α : Type} {f : α → D} {rs : List α} {k : Nat} (h : k < rs.length) (h1 : e[i]? = some (.sh (.lst (rs.map f)))) (h2 : e[j]? = some (.sh (.int k))) : EV (dOp fIx (oSlot i) (oSlot j)) e (· = f rs[k]) := ev_op1 (ov_sh h1) (ov_sh h2) (fIx_map h)
theorem nv_pairR {ps es fs : List Nat} {w1 w2 : List (Nat × Nat)} (hps : GP ps) (r1 : RowK ps (w1, es)) (r2 : RowK ps (w2, fs)) (h1 : EV t1 e (· = .lst (intsD ps))) (h2 : EV t2 e (· = num w1)) (h3 : EV t3 e (· = num w2)) (h4 : EV t4 e (· = .lst (intsD es))) (h5 : EV t5 e (· = .lst (intsD fs))) :
    EV (dApp sp_law_pair_right (aCons t1 (aCons t2 (aCons t3 (aCons t4 (aCons t5 aNil)))))) e (· = .bl true) := ev_app (av1 h1 (av1 h2 (av1 h3 (av1 h4 (av1 h5 av_nil))))) fun ds hd Q hq => by
  subst hd
  exact ⟨ps, es, fs, w1, w2, rfl, hps, r1.wf, r2.wf, r1.ln, r2.ln, r1.vl, r2.vl, hq _ rfl⟩
theorem nv_exp {w : List (Nat × Nat)} {b due : Nat} (hw : WF gR w) (hb : OkB gR b) (h : ∀ m, b ^ m ∣ val w ↔ m ≤ due) (h1 : EV t e (· = num w)) (h2 : EV u e (· = .int b)) : EV (dApp sp_exponent_in (aCons t (aCons u aNil))) e (· = .int due) := ev_app (av1 h1 (av1 h2 av_nil)) fun ds hd Q hq => by
  subst hd
  refine ⟨gR, w, b, rfl, gR_ok, hw, hb, fun m a c => hq _ ?_⟩
  have a1 := (h m).mp a
  have a2 : ¬ m + 1 ≤ due := fun z => c ((h (m + 1)).mpr z)
  have : m = due := by omega
  rw [this]
theorem nv_in {w : List (Nat × Nat)} {b : Nat} (hw : WF gR w) (hb : OkB gR b) (h1 : EV t e (· = .int b)) (h2 : OV ta e (· = num w)) : EV (dOwnIn "Number" sp_contains t ta) e (· = .bl (decide (b ∣ val w))) := fun Q hq => h1 _ fun d hd => h2 _ fun a d2 hl hd2 => by
  subst hd hd2
  exact ⟨_, _, hl, gR, w, b, rfl, gR_ok, hw, hb, _, rfl, hq _ rfl⟩
theorem nv_root {s : Nat} (h : EV t e (Nv gR (s * s))) (h2 : EV u e (· = .int 2)) : EV (dApp sp_root (aCons t (aCons u aNil))) e (Nv gR s) := fun Q hq => h _ fun d ⟨w, e1, e2, e3⟩ => h2 _ fun d2 hd2 => by
  subst e1 hd2
  exact ⟨gR, w, s, rfl, gR_ok, e2, by rw [e3, Nat.pow_two], fun w' a b => hq _ ⟨w', rfl, a, b⟩⟩
theorem nv_groot {s k : Nat} (hs : 1 < s) (hk : s * s < 2 ^ k) (hk2 : k < 2 ^ 1000) (h : EV t e (Nv gR (s * s))) : EV (dApp sp_greatest_root (aCons t aNil)) e (fun d => ∃ (w' : List (Nat × Nat)) (j : Nat), d = .tup [num w', .int ((2 * j : Nat) : Int)]) := fun Q hq => h _ fun d ⟨w, e1, e2, e3⟩ => by
  subst e1
  refine ⟨gR, w, s, k, rfl, gR_ok, e2, by rw [e3, Nat.pow_two], fun z => ?_, by rw [e3]; exact hk, hk2, fun w' j => hq _ ⟨w', j, rfl⟩⟩
  rw [z] at e3
  have h1 : (1 : Nat) = s * s := e3
  have : 1 * 1 < s * s := Nat.mul_lt_mul_of_lt_of_lt hs hs
  omega
theorem tv_bl2 {x y : Bool} (hxy : x = y) (h1 : OV ta e (· = .bl x)) (h2 : OV tb e (· = .bl y)) : TV (dTest (dOp fNe ta tb)) e (· = false) := tv_bl (ev_op1 h1 h2 (by subst hxy; cases x <;> rfl))
theorem tv_int2 {x : Int} (h1 : OV ta e (· = .int x)) (h2 : OV tb e (· = .int x)) : TV (dTest (dOp fNe ta tb)) e (· = false) := tv_bl (ev_op1 h1 h2 (by rw [fNe_int]; simp))
end
/-! ### one turn -/
abbrev RowT17 := List (Nat × Nat) × List Nat
def numsD (rs : List RowT17) : List D := rs.map fun r => num r.1
def rtE (ps : List Nat) (rs : List RowT17) (t8 t9 t10 t11 t12 t13 : Ent) : DEnv := [.sh .src, .sh (.lst (intsD ps)), .sh (.lst (rs.map rowW)), .un, .sh (.lst (numsD rs)), .sh (.lst (rowsD (rs.map (·.2)))), .un, .un, t8, t9, t10, t11, t12, t13, .un]
theorem ev_part14 {ps : List Nat} {b : Nat} {X0 X2 X3 X4 X5 X6 X7 X8 X9 X11 X12 X13 : Ent} (hl : ps.length ≤ 1000) (hp : ∀ p ∈ ps, 2 ≤ p) : EV (dNew (fLc (iRange1 (aoCons (oVal (dCB fLen (aoCons (oSlot 1) aoNil))) aoNil)) [14] (gN 14) (dTest (dOp fEq (oVal (dOp fMod (oSlot 10) (oVal (dOp fIx (oSlot 1) (oSlot 14))))) (oVal (dC (.int 0))))) (dVar 14)))
    [X0, .sh (.lst (intsD ps)), X2, X3, X4, X5, X6, X7, X8, X9, .sh (.int b), X11, X12, X13, .un] (· = .lst (intsD (partOf ps b))) := by
  refine ev_rangeF (f := fun k => b % ps.getD k 0 == 0) (src_range rfl hl) rfl (by omega) fun k hk K1 hK => ?_
  have h2 := hp ps[k] (List.getElem_mem hk)
  rw [← getD_ix hk] at h2
  refine ⟨_, _, _, rfl, rfl, fIx_getD hk, _, _, _, rfl, rfl, fMod_nat (by omega), _, _, _, rfl, rfl, fEq_int _ _, _, rfl, ?_⟩
  have e1 : (((b % ps.getD k 0 : Nat) : Int) == 0) = (b % ps.getD k 0 == 0) := by
    rw [Bool.eq_iff_iff]
    simp
    omega
  rw [e1]
  by_cases h : (b % ps.getD k 0 == 0) = true
  · rw [if_pos h] at hK
    rw [h]
    exact hK
  · rw [if_neg h] at hK
    rw [Bool.not_eq_true] at h
    rw [h]
    exact hK
theorem ev_minB {e : DEnv} {t : TD} {ns : List Nat} {m : Nat} (h : EV t e (· = .lst (intsD ns))) (hm : fMinB [.lst (intsD ns)] = some (.int (m : Nat))) : EV (dCB fMinB (aoCons (oVal t) aoNil)) e (· = .int (m : Nat)) := fun Q hq => h _ fun d hd => by
  subst hd
  exact ⟨_, _, rfl, hm, hq _ rfl⟩
theorem ev_quo {rows : List (List Nat)} {S : List Nat} {jj sq : Nat} {X0 X1 X2 X3 X4 X6 X7 X8 X10 X13 : Ent} (hj : jj < rows.length) (hsq : 0 < sq) (hsq2 : sq ≤ 2) (hS : ∀ k ∈ S, k < rows[jj].length) (hSl : S.length ≤ 1000) : EV (dNew (fLc (iSeqD (dVar 11)) [14] (gN 14) dYes (dOp fFdiv (oVal (dOp fIx (oVal (dOp fIx (oSlot 5) (oSlot 9))) (oSlot 14))) (oSlot 12))))
    [X0, X1, X2, X3, X4, .sh (.lst (rowsD rows)), X6, X7, X8, .sh (.int jj), X10, .sh (.lst (intsD S)), .sh (.int sq), X13, .un] (· = .lst (intsD (S.map fun k => rows[jj].getD k 0 / sq))) := fun Q hq => by
  refine ⟨_, rfl, le_line (by rw [intsD_len]; omega), ?_⟩
  show lcL _ [14] _ _ _ _ (intsD S) [] [X0, X1, X2, X3, X4, .sh (.lst (rowsD rows)), X6, X7, X8, .sh (.int jj), X10, .sh (.lst (intsD S)), .sh (.int sq), X13, .un]
  refine lcL_ints (f := fun k => some (.int ((rows[jj].getD k 0 / sq : Nat) : Int))) trivial (fun k hk K1 hK => ?_) ?_
  · exact ⟨_, _, _, rfl, rfl, fIx_map hj, _, _, _, rfl, rfl, fIx_getD (hS k hk), _, _, _, rfl, rfl, fFdiv_nat hsq (by omega), hK⟩
  · rw [List.nil_append, fm_some]
    have e1 : (S.map fun k => D.int ((rows[jj].getD k 0 / sq : Nat) : Int)) = intsD (S.map fun k => rows[jj].getD k 0 / sq) := by
      unfold intsD
      rw [List.map_map] <;> rfl
    rw [e1]
    exact hq _ rfl
theorem rt_turn {ps : List Nat} {rs : List RowT17} (hps : GP ps) (hr : ∀ r ∈ rs, Wr ps r.1 r.2) (hrl : rs.length = 3) {F : DEnds} {k : Nat} (hk : k < 3) {t9 t10 t11 t12 t13 : Ent} (hF : ∀ t9 t10 t11 t12 t13, F.nx (rtE ps rs (.sh (.int k)) t9 t10 t11 t12 t13)) :
    rtB F (rtE ps rs (.sh (.int k)) t9 t10 t11 t12 t13) := by
  have hl7 := hps.len
  have hp2 : ∀ p ∈ ps, 2 ≤ p := fun p hp => (hps.ok p hp).1
  have hj : (k + 1) % 3 < 3 := Nat.mod_lt _ (by decide)
  have hk' : k < rs.length := by omega
  have hj' : (k + 1) % 3 < rs.length := by omega
  have hwk := hr rs[k] (List.getElem_mem hk')
  have hwj := hr rs[(k + 1) % 3] (List.getElem_mem hj')
  have rk := hwk.row hps
  have rj := hwj.row hps
  unfold rtB
  refine sasg1 (ev_op1 (ov_val (ev_op1 (ov_sh rfl) (ov_val ev_c) (fAdd_nat k 1))) (ov_val ev_c) (fMod_nat (b := 3) (by decide))) ?_
  generalize (k + 1) % 3 = jj at hj hj' hwj rj
  have ek : ∀ t10 t11 t12 t13, EV (dOp fIx (oSlot 4) (oSlot 8)) (rtE ps rs (.sh (.int k)) (.sh (.int jj)) t10 t11 t12 t13) (· = num rs[k].1) := fun _ _ _ _ => ev_ixm (f := fun r : RowT17 => num r.1) hk' rfl rfl
  have ej : ∀ t10 t11 t12 t13, EV (dOp fIx (oSlot 4) (oSlot 9)) (rtE ps rs (.sh (.int k)) (.sh (.int jj)) t10 t11 t12 t13) (· = num rs[jj].1) := fun _ _ _ _ => ev_ixm (f := fun r : RowT17 => num r.1) hj' rfl rfl
  have lk : (rs.map (·.2)).length = rs.length := List.length_map _
  have xk : ∀ t10 t11 t12 t13, EV (dOp fIx (oSlot 5) (oSlot 8)) (rtE ps rs (.sh (.int k)) (.sh (.int jj)) t10 t11 t12 t13) (· = .lst (intsD rs[k].2)) := fun _ _ _ _ => (ev_ixm (f := fun es : List Nat => D.lst (intsD es)) (rs := rs.map (·.2)) (by rw [lk]; exact hk') rfl rfl).imp fun d hd => by rw [hd, List.getElem_map]
  have xj : ∀ t10 t11 t12 t13, EV (dOp fIx (oSlot 5) (oSlot 9)) (rtE ps rs (.sh (.int k)) (.sh (.int jj)) t10 t11 t12 t13) (· = .lst (intsD rs[jj].2)) := fun _ _ _ _ => (ev_ixm (f := fun es : List Nat => D.lst (intsD es)) (rs := rs.map (·.2)) (by rw [lk]; exact hj') rfl rfl).imp fun d hd => by rw [hd, List.getElem_map]
  show dSeq _ _ F (rtE ps rs (.sh (.int k)) (.sh (.int jj)) t10 t11 t12 t13)
  refine sif (ov_notn (nv_pairR hps rk rj (ev_var rfl) (ek _ _ _ _) (ej _ _ _ _) (xk _ _ _ _) (xj _ _ _ _))) rfl ?_
  -- the base
  obtain ⟨p0, w', hw0⟩ : ∃ p0 w', rs[k].1 = p0 :: w' := by
    cases h : rs[k].1 with
    | nil => exact absurd h hwk.ne
    | cons p0 w' => exact ⟨p0, w', rfl⟩
  have hp0 := hwk.ok p0 (by rw [hw0]; exact List.mem_cons_self)
  obtain ⟨⟨pa, ha, pb, hb, hab⟩, _⟩ := hp0
  have hob := (rk.wf.ok p0 (by show p0 ∈ rs[k].1; rw [hw0]; exact List.mem_cons_self)).1
  have ebase : EV (dOp fIx (oVal (dOp fIx (oVal (dOp fIx (oVal (dOp fIx (oSlot 2) (oSlot 8))) (oVal (dC (.int 0))))) (oVal (dC (.int 0))))) (oVal (dC (.int 0)))) (rtE ps rs (.sh (.int k)) (.sh (.int jj)) t10 t11 t12 t13) (· = .int (p0.1 : Nat)) := by
    refine ev_op1 (ov_val (ev_op1 (ov_val (ev_op1 (ov_val (ev_ixm (f := rowW) hk' rfl rfl)) (ov_val ev_c) (z := .tup ((p0 :: w').map pairD)) ?_)) (ov_val ev_c) (z := pairD p0) (fIx_tup (n := 0) (by simp)))) (ov_val ev_c) rfl
    unfold rowW
    rw [hw0]
    rfl
  refine sasg1 ebase ?_
  show dSeq _ _ F (rtE ps rs (.sh (.int k)) (.sh (.int jj)) (.sh (.int p0.1)) t11 t12 t13)
  refine sasg1 (ev_part14 (by omega) hp2) ?_
  obtain ⟨hSne, hsp⟩ := spots_ok hps ha hb
  rw [hab] at hob ⊢
  have hSn : ∀ q ∈ partOf ps (pa * pb), q < rs[jj].2.length := fun q hq => by
    obtain ⟨h1, _⟩ := mem_part.mp hq
    rw [hwj.el]
    exact h1
  have hSl : (partOf ps (pa * pb)).length ≤ 1000 := by
    have := List.length_filter_le (fun k => (pa * pb) % ps.getD k 0 == 0) (List.range ps.length)
    rw [List.length_range] at this
    show ((List.range ps.length).filter _).length ≤ 1000
    omega
  generalize partOf ps (pa * pb) = S at hSne hsp hSn hSl
  show dSeq _ _ F (rtE ps rs (.sh (.int k)) (.sh (.int jj)) (.sh (.int (pa * pb : Nat))) (.sh (.lst (intsD S))) t12 t13)
  have esq : EV (dOp fAdd (oVal (dCB fIntB (aoCons (oVal (dOp fEq (oVal (dCB fLen (aoCons (oSlot 11) aoNil))) (oVal (dC (.int 1))))) aoNil))) (oVal (dC (.int 1)))) (rtE ps rs (.sh (.int k)) (.sh (.int jj)) (.sh (.int (pa * pb : Nat))) (.sh (.lst (intsD S))) t12 t13) (· = .int (sqOf S : Nat)) := by
    have e1 : EV (dOp fEq (oVal (dCB fLen (aoCons (oSlot 11) aoNil))) (oVal (dC (.int 1)))) (rtE ps rs (.sh (.int k)) (.sh (.int jj)) (.sh (.int (pa * pb : Nat))) (.sh (.lst (intsD S))) t12 t13) (· = .bl (S.length == 1)) := by
      refine ev_op1 (ov_val (ev_len rfl)) (ov_val ev_c) ?_
      rw [intsD_len, fEq_int]
      congr 2
      rw [Bool.eq_iff_iff]
      simp
      omega
    refine ev_op1 (ov_val (P := (· = .int ((if S.length == 1 then 1 else 0 : Nat) : Int))) fun Q hq => e1 _ fun d hd => ?_) (ov_val ev_c) (fAdd_nat _ 1)
    subst hd
    refine ⟨_, _, rfl, rfl, hq _ ?_⟩
    cases (S.length == 1) <;> rfl
  refine sasg1 esq ?_
  have hs1 : 0 < sqOf S := by unfold sqOf; omega
  have hs2 : sqOf S ≤ 2 := by unfold sqOf; split <;> omega
  generalize sqOf S = sq at hsp hs1 hs2
  show dSeq _ _ F (rtE ps rs (.sh (.int k)) (.sh (.int jj)) (.sh (.int (pa * pb : Nat))) (.sh (.lst (intsD S))) (.sh (.int sq)) t13)
  obtain ⟨due, f1, f2, f3⟩ := fMin_list (ns := S.map fun q => rs[jj].2.getD q 0 / sq) (by simpa using hSne)
  have edue : EV (dCB fMinB (aoCons (oVal (dNew (fLc (iSeqD (dVar 11)) [14] (gN 14) dYes (dOp fFdiv (oVal (dOp fIx (oVal (dOp fIx (oSlot 5) (oSlot 9))) (oSlot 14))) (oSlot 12))))) aoNil)) (rtE ps rs (.sh (.int k)) (.sh (.int jj)) (.sh (.int (pa * pb : Nat))) (.sh (.lst (intsD S))) (.sh (.int sq)) t13) (· = .int (due : Nat)) := by
    have hq0 := ev_quo (rows := rs.map fun r : RowT17 => r.2) (S := S) (jj := jj) (sq := sq) (X0 := .sh .src) (X1 := .sh (.lst (intsD ps))) (X2 := .sh (.lst (rs.map rowW))) (X3 := .un) (X4 := .sh (.lst (numsD rs))) (X6 := .un) (X7 := .un) (X8 := .sh (.int k)) (X10 := .sh (.int (pa * pb : Nat))) (X13 := t13) (by rw [lk]; exact hj') hs1 hs2 (fun q hq => by rw [List.getElem_map]; exact hSn q hq) hSl
    refine ev_minB hq0 ?_
    rw [List.getElem_map]
    exact f1
  refine sasg1 edue ?_
  have hdue : ∀ m, (pa * pb) ^ m ∣ val rs[jj].1 ↔ m ≤ due := fun m => by
    rw [hwj.vl]
    refine hsp _ hwj.el due ?_ (fun q hq => f3 _ (List.mem_map.mpr ⟨q, hq, rfl⟩)) m
    obtain ⟨q, h1, h2⟩ := List.mem_map.mp f2
    exact ⟨q, h1, h2.symm⟩
  show dSeq _ _ F (rtE ps rs (.sh (.int k)) (.sh (.int jj)) (.sh (.int (pa * pb : Nat))) (.sh (.lst (intsD S))) (.sh (.int sq)) (.sh (.int due)))
  have hin : decide (pa * pb ∣ val rs[jj].1) = decide (0 < due) := by
    have := hdue 1
    rw [Nat.pow_one] at this
    exact decide_eq_decide.mpr this
  refine sif (tv_or (tv_int2 (ov_val (nv_exp rj.wf hob hdue (ej _ _ _ _) (ev_var rfl))) (ov_sh rfl)) (tv_bl2 hin (ov_val (nv_in rj.wf hob (ev_var rfl) (ov_val (ej _ _ _ _)))) (ov_val (ev_op1 (ov_sh rfl) (ov_val ev_c) (fGt_nat due 0))))) rfl ?_
  have nk : ∀ t10 t11 t12 t13, OV (oVal (dOp fIx (oSlot 4) (oSlot 8))) (rtE ps rs (.sh (.int k)) (.sh (.int jj)) t10 t11 t12 t13) (Nv gR (val rs[k].1)) := fun _ _ _ _ => ov_val ((ek _ _ _ _).imp fun d hd => ⟨_, hd, rk.wf, rfl⟩)
  refine sif (ov_notn (nv_is hps rk.ln rk.vl (nv_root (nv_mul gR_ok (nk _ _ _ _) (nk _ _ _ _)) ev_c) (ev_var rfl) (xk _ _ _ _))) rfl ?_
  have hv1 : 1 < val rs[k].1 := by
    have h1 := pow_le_val (fs := rs[k].1) (fun q hq => (rk.wf.ok q hq).1.lo) p0 (by rw [hw0]; exact List.mem_cons_self)
    have h2 : 2 ^ 1 ≤ 2 ^ p0.2 := Nat.pow_le_pow_right (by decide) (rk.wf.ok p0 (by show p0 ∈ rs[k].1; rw [hw0]; exact List.mem_cons_self)).2
    omega
  have hv2 : val rs[k].1 ≤ 2 ^ (67 * (rs[k].1.length * 10 ^ 30)) := val_le2 fun p hp => ⟨(rk.wf.ok p hp).1.hi, (hwk.ok p hp).2.2⟩
  have hln := hwk.ln
  generalize rs[k].1.length = n at hv2 hln
  have hv3 : val rs[k].1 * val rs[k].1 < 2 ^ (67 * (n * 10 ^ 30) + 67 * (n * 10 ^ 30) + 1) := by
    rw [Nat.pow_succ, Nat.pow_add]
    have a1 := Nat.mul_le_mul hv2 hv2
    have a2 : 0 < 2 ^ (67 * (n * 10 ^ 30)) * 2 ^ (67 * (n * 10 ^ 30)) := Nat.mul_pos (Nat.pow_pos (by decide)) (Nat.pow_pos (by decide))
    omega
  have hv4 : 67 * (n * 10 ^ 30) + 67 * (n * 10 ^ 30) + 1 < 2 ^ 1000 := by
    have a1 : n * 10 ^ 30 ≤ 3 * 10 ^ 30 := Nat.mul_le_mul hln (Nat.le_refl _)
    have a2 : 67 * (3 * 10 ^ 30) + 67 * (3 * 10 ^ 30) + 1 < 2 ^ 120 := by decide
    refine Nat.lt_of_le_of_lt ?_ (Nat.lt_trans a2 (Nat.pow_lt_pow_right (by decide) (by decide)))
    exact Nat.succ_le_succ (Nat.add_le_add (Nat.mul_le_mul_left 67 a1) (Nat.mul_le_mul_left 67 a1))
  refine dif_f (k := false) (tv_bl (ev_op1 (a := .int 0) (ov_val (P := (· = .int 0)) ?_) (ov_val ev_c) rfl)) rfl (hF _ _ _ _ _)
  refine fun Q hq => nv_groot hv1 hv3 hv4 (nv_mul gR_ok (nk _ _ _ _) (nk _ _ _ _)) _ fun d ⟨w2, jx, hd⟩ => ?_
  subst hd
  refine ⟨_, _, _, rfl, rfl, rfl, _, _, _, rfl, rfl, fMod_nat (b := 2) (by decide), hq _ ?_⟩
  rw [Nat.mul_mod_right]
  rfl
theorem rt_for {ps : List Nat} {rs : List RowT17} (hps : GP ps) (hr : ∀ r ∈ rs, Wr ps r.1 r.2) (hrl : rs.length = 3) {F : DEnds} (hF : ∀ t8 t9 t10 t11 t12 t13, F.nx (rtE ps rs t8 t9 t10 t11 t12 t13)) : ∀ (ks : List Nat) (t8 t9 t10 t11 t12 t13 : Ent), (∀ k ∈ ks, k < 3) →
    forL (fun _ => True) (gN 8) rtB F (intsD ks) (rtE ps rs t8 t9 t10 t11 t12 t13)
  | [], t8, t9, t10, t11, t12, t13, _ => ⟨trivial, hF _ _ _ _ _ _⟩
  | k :: ks, t8, t9, t10, t11, t12, t13, h => ⟨trivial, rt_turn hps hr hrl (h k List.mem_cons_self) fun t9 t10 t11 t12 t13 => rt_for hps hr hrl hF ks _ _ _ _ _ _ fun q hq => h q (List.mem_cons_of_mem _ hq)⟩
theorem wrow_wx {ps : List Nat} {r : RowT17} (hps : GP ps) (h : Wr ps r.1 r.2) : WX r.1 := ⟨gR, (h.row hps).wf, fun p hp => Nat.le_trans (h.ok p hp).2.2 (by decide), by have := h.ln; omega⟩
theorem cut_take (w : List Nat) {n : Nat} (h : n ≤ w.length) : cutD (intsD w) none (some (n : Int)) = intsD (w.take n) := by
  have := cutD_to (w.take n) (w.drop n)
  rw [List.take_append_drop, List.length_take, Nat.min_eq_left h] at this
  exact this
theorem nv_cpb3 {e : DEnv} {t1 t2 t3 : TD} {w1 w2 w3 : List (Nat × Nat)} (g1 : WF gR w1) (g2 : WF gR w2) (g3 : WF gR w3) (h1 : EV t1 e (· = num w1)) (h2 : EV t2 e (· = num w2)) (h3 : EV t3 e (· = num w3)) : EV (dApp sp_coprime_base (aCons t1 (aCons t2 (aCons t3 aNil)))) e (fun d => ∃ bs, d = .tup (intsD bs) ∧ Refd (basesL [w1, w2, w3]) bs) := ev_app (av1 h1 (av1 h2 (av1 h3 av_nil))) fun ds hd Q hq => by
  subst hd
  refine ⟨Nat.zero_le _, star_le rfl, gR, [w1, w2, w3], rfl, Nat.le_of_ble_eq_true rfl, fun w hw => ?_, fun bs hb => hq _ ⟨bs, rfl, hb⟩⟩
  rcases List.mem_cons.mp hw with rfl | hw
  · exact g1
  · rcases List.mem_cons.mp hw with rfl | hw
    · exact g2
    · rw [List.mem_singleton.mp hw]
      exact g3
theorem nv_cpb2 {e : DEnv} {t1 t2 : TD} {w1 w2 : List (Nat × Nat)} (g1 : WF gR w1) (g2 : WF gR w2) (h1 : EV t1 e (· = num w1)) (h2 : EV t2 e (· = num w2)) : EV (dApp sp_coprime_base (aCons t1 (aCons t2 aNil))) e (fun d => ∃ bs, d = .tup (intsD bs) ∧ Refd (basesL [w1, w2]) bs) := ev_app (av1 h1 (av1 h2 av_nil)) fun ds hd Q hq => by
  subst hd
  refine ⟨Nat.zero_le _, star_le rfl, gR, [w1, w2], rfl, Nat.le_of_ble_eq_true rfl, fun w hw => ?_, fun bs hb => hq _ ⟨bs, rfl, hb⟩⟩
  rcases List.mem_cons.mp hw with rfl | hw
  · exact g1
  · rw [List.mem_singleton.mp hw]
    exact g2
theorem nv_baseR {e : DEnv} {t1 t2 t3 : TD} {ps : List Nat} {rs : List RowT17} (hps : GP ps) (hr : ∀ r ∈ rs, RowK ps r) (hne : rs ≠ []) (hrl : rs.length ≤ 10) (h1 : EV t1 e (· = .lst (intsD ps))) (h2 : EV t2 e fun d => ∃ bs, d = .tup (intsD bs) ∧ Refd (basesL (rs.map (·.1))) bs) (h3 : EV t3 e (· = .lst (rowsD (rs.map (·.2))))) :
    EV (dApp sp_law_base_right (aCons t1 (aCons t2 (aCons t3 aNil)))) e (· = .bl true) := fun Q hq => h1 _ fun d hd => h2 _ fun d2 ⟨bs, hd2, hb⟩ => h3 _ fun d3 hd3 => by
  subst hd hd2 hd3
  exact ⟨ps, bs, rs.map (·.2), rfl, hps, by simpa using hne, by rw [List.length_map]; exact hrl, fun es he => by
    obtain ⟨r, h1, rfl⟩ := List.mem_map.mp he
    exact (hr r h1).ln, bsR_of hps hr hb, hq _ rfl⟩
theorem F2.get17 {α β : Type} {P : α → β → Prop} : ∀ {as : List α} {bs : List β}, F2 P as bs → ∀ i (h1 : i < as.length) (h2 : i < bs.length), P as[i] bs[i]
  | a :: as, b :: bs, h, 0, _, _ => h.1
  | a :: as, b :: bs, h, i + 1, h1, h2 => F2.get17 h.2 i (Nat.lt_of_succ_lt_succ h1) (Nat.lt_of_succ_lt_succ h2)
  | [], _, _, i, h1, _ => absurd h1 (Nat.not_lt_zero i)
  | _ :: _, [], h, _, _, _ => h.elim
theorem f2_fun {α β : Type} {f : α → β} : ∀ {as : List α} {bs : List β}, F2 (fun a b => b = f a) as bs → bs = as.map f
  | [], [], _ => rfl
  | a :: as, b :: bs, h => by rw [List.map_cons, h.1, f2_fun h.2]
  | [], _ :: _, h => h.elim
  | _ :: _, [], h => h.elim
theorem does_law_right : Does 15 rd_law_right sp_law_right := by
  rintro ds Q ⟨rfl, hQ⟩
  rw [rd_law_right_eq]
  refine ⟨rfl, intsD gps, rfl, Nat.le_of_ble_eq_true rfl, fun ys hys => ?_⟩
  obtain ⟨w, hw, rfl⟩ := ints_perm hys
  refine ⟨4, rfl, by decide, small_8000 (by decide), fun r hr => ⟨_, _, _, rfl, rfl, fAdd_nat 3 r, _, rfl, _, _, rfl, rfl, ?_⟩⟩
  have hwl : w.length = 7 := hw.length_eq
  have hc : cutD (intsD w) none (some ((3 + r : Nat) : Int)) = intsD (w.take (3 + r)) := cut_take w (by omega)
  rw [hc]
  have hps : GP (w.take (3 + r)) := ⟨(hw.nodup_iff.mpr (by decide)).sublist (List.take_sublist _ _), fun p hp => hw.mem_iff.mp (List.mem_of_mem_take hp)⟩
  have hp0 : 0 < (w.take (3 + r)).length := by rw [List.length_take]; omega
  generalize w.take (3 + r) = ps at hps hp0
  refine ⟨3, rfl, by decide, by decide, len_line rfl, ?_⟩
  show lcL _ [3] _ _ _ _ ((List.range 3).map fun n : Nat => D.int n) [] [.sh .src, .sh (.lst (intsD ps)), .un, .un, .un, .un, .un, .un, .un, .un, .un, .un, .un, .un, .un]
  refine lcL_mapR (hD := rowW) (P := fun (_ : Nat) (r : RowT17) => Wr ps r.1 r.2) trivial (fun q hq K1 hK => ?_) fun rs hrs => ?_
  · exact ⟨3, rfl, by decide, small_8000 (by decide), fun m hm => ⟨_, _, _, rfl, rfl, fAdd_nat 1 m, ps, 1 + m, rfl, hps, hp0, by omega, by omega, fun w es h => hK (w, es) h⟩⟩
  · have hrl : rs.length = 3 := by rw [hrs.len, List.length_range]
    have hr : ∀ r ∈ rs, Wr ps r.1 r.2 := fun r hr => by
      obtain ⟨i, hi, rfl⟩ := List.getElem_of_mem hr
      exact (F2.get17 hrs i (by rw [List.length_range]; omega) hi)
    rw [List.nil_append]
    have en : EV (dNew (fLc (iSeqD (dVar 2)) [6, 7] (gTupD 2 (gConsD (gN 6) (gConsD (gN 7) gNilD))) dYes (dApp sp_law_num17 (aCons (dVar 6) aNil)))) [.sh .src, .sh (.lst (intsD ps)), .sh (.lst (rs.map rowW)), .un, .un, .un, .un, .un, .un, .un, .un, .un, .un, .un, .un] (· = .lst (numsD rs)) := fun Q hq => by
      refine ⟨_, rfl, le_line (by rw [List.length_map]; omega), ?_⟩
      show lcL _ [6, 7] _ _ _ _ (rs.map rowW) [] [.sh .src, .sh (.lst (intsD ps)), .sh (.lst (rs.map rowW)), .un, .un, .un, .un, .un, .un, .un, .un, .un, .un, .un, .un]
      refine lcL_mapR (hD := fun x : D => x) (P := fun (r : RowT17) d => d = num r.1) trivial (fun r hr2 K1 hK => ?_) fun ds hds => ?_
      · exact ⟨rfl, rfl, r.1, rfl, wrow_wx hps (hr r hr2), (hr r hr2).ne, hK _ rfl⟩
      · rw [List.nil_append, f2_fun hds]
        refine hq _ ?_
        rw [List.map_map] <;> rfl
    have ee : EV (dNew (fLc (iSeqD (dVar 2)) [6, 7] (gTupD 2 (gConsD (gN 6) (gConsD (gN 7) gNilD))) dYes (dVar 7))) [.sh .src, .sh (.lst (intsD ps)), .sh (.lst (rs.map rowW)), .un, .un, .un, .un, .un, .un, .un, .un, .un, .un, .un, .un] (· = .lst (rowsD (rs.map (·.2)))) := fun Q hq => by
      refine ⟨_, rfl, le_line (by rw [List.length_map]; omega), ?_⟩
      show lcL _ [6, 7] _ _ _ _ (rs.map rowW) [] [.sh .src, .sh (.lst (intsD ps)), .sh (.lst (rs.map rowW)), .un, .un, .un, .un, .un, .un, .un, .un, .un, .un, .un, .un]
      refine lcL_mapR (hD := fun x : D => x) (P := fun (r : RowT17) d => d = .lst (intsD r.2)) trivial (fun r hr2 K1 hK => ?_) fun ds hds => ?_
      · exact ⟨rfl, rfl, hK _ rfl⟩
      · rw [List.nil_append, f2_fun hds]
        refine hq _ ?_
        unfold rowsD
        rw [List.map_map, List.map_map] <;> rfl
    refine spair (V := dSeq _ _) (e := [.sh .src, .sh (.lst (intsD ps)), .sh (.lst (rs.map rowW)), .un, .un, .un, .un, .un, .un, .un, .un, .un, .un, .un, .un]) (av1 en (av1 ee av_nil)) ?_
    refine ⟨3, rfl, by decide, by decide, ?_⟩
    refine rt_for hps hr hrl (fun t8 t9 t10 t11 t12 t13 => ?_) [0, 1, 2] _ _ _ _ _ _ (by decide)
    have rk : ∀ r ∈ rs, RowK ps r := fun r h => (hr r h).row hps
    have gt : ∀ i (h : i < 3), EV (dOp fIx (oSlot 4) (oVal (dC (.int (i : Nat))))) (rtE ps rs t8 t9 t10 t11 t12 t13) (· = num (rs[i]'(by omega)).1) := fun i h => ev_op1 (ov_sh rfl) (ov_val ev_c) (fIx_map (f := fun r : RowT17 => num r.1) (by omega))
    have wf : ∀ i (h : i < 3), WF gR (rs[i]'(by omega)).1 := fun i h => (rk _ (List.getElem_mem (by omega))).wf
    refine dretb (D' := { nx := fun x => Q .non, rt := Q }) (e := rtE ps rs t8 t9 t10 t11 t12 t13) (nv_baseR hps rk (fun z => by rw [z] at hrl; exact nomatch hrl) (by omega) (ev_var (i := 1) rfl) ((nv_cpb3 (wf 0 (by decide)) (wf 1 (by decide)) (wf 2 (by decide)) (gt 0 (by decide)) (gt 1 (by decide)) (gt 2 (by decide))).imp fun d ⟨bs, h1, h2⟩ => ⟨bs, h1, ?_⟩) (ev_var (i := 5) rfl)) rfl hQ
    have e3 : rs.map (·.1) = [(rs[0]'(by omega)).1, (rs[1]'(by omega)).1, (rs[2]'(by omega)).1] := by
      match rs, hrl with
      | [a, b, c], _ => rfl
    rw [e3]
    exact h2
end DL
set_option Elab.async false
set_option linter.all false
set_option maxRecDepth 100000
set_option maxHeartbeats 4000000
set_option exponentiation.threshold 10000
/-! Q17f: k17: law -/
namespace DL
open PySem PySem.Spec L2 DM
theorem PC.cop : ∀ {bs : List Nat}, PC bs → ∀ {x y : Nat}, x ∈ bs → y ∈ bs → x ≠ y → Nat.Coprime x y
  | b :: bs, h, x, y, hx, hy, hne => by
    rcases List.mem_cons.mp hx with ex | hx
    · rcases List.mem_cons.mp hy with ey | hy
      · exact absurd (ex.trans ey.symm) hne
      · rw [ex]
        exact h.head y hy
    · rcases List.mem_cons.mp hy with ey | hy
      · rw [ey]
        exact Nat.Coprime.symm (h.head x hx)
      · exact PC.cop h.tail hx hy hne
theorem prime_item {bs : List Nat} {p x : Nat} (hc : PC bs) (hp : Prm p) (h : Mon bs x) : x = p → p ∈ bs := by
  induction h with
  | one =>
    intro e
    have := hp.1
    omega
  | @mul s y hs _ ih =>
    intro e
    have hd : s ∣ p := ⟨y, e.symm⟩
    by_cases h1 : p ∣ s
    · rw [← Nat.dvd_antisymm hd h1]
      exact hs
    · exfalso
      have h2 : Nat.gcd s p = 1 := hp.2 s h1
      rw [Nat.gcd_eq_left hd] at h2
      have := hc.gt s hs
      omega
theorem mon_pp {bs : List Nat} : ∀ (cs es : List Nat), (∀ c ∈ cs, c ∈ bs) → Mon bs (pp cs es)
  | [], _, _ => .one
  | _ :: _, [], _ => .one
  | c :: cs, e :: es, h => ((Mon.self (h c List.mem_cons_self)).pow e).prod (mon_pp cs es fun x hx => h x (List.mem_cons_of_mem _ hx))
/-- the base of two products that meet in a prime -/
theorem base_three {p q r : Nat} {bs : List Nat} (hp : Prm p) (hq : Prm q) (hr : Prm r) (pq : p < q) (qr : q < r) (h : Refd [p * q, q * r] bs) : bs = [p, q, r] := by
  have hp1 := hp.1
  have hq1 := hq.1
  have hr1 := hr.1
  have ndv : ∀ {x y : Nat}, Prm x → Prm y → x ≠ y → ¬ x ∣ y := fun {x y} hx hy hne hd => by
    by_cases h1 : y ∣ x
    · exact hne (Nat.dvd_antisymm hd h1)
    · have h2 : Nat.gcd x y = 1 := hy.2 x h1
      rw [Nat.gcd_eq_left hd] at h2
      have := hx.1
      omega
  have dm : ∀ {x a b : Nat}, Prm x → x ∣ a * b → x ∣ a ∨ x ∣ b := fun {x a b} hx hd => by
    by_cases h1 : x ∣ a
    · exact .inl h1
    · exact .inr (Nat.Coprime.dvd_of_dvd_mul_left (Nat.Coprime.symm (hx.2 a h1)) hd)
  have a1 : 1 < p * q := Nat.lt_of_lt_of_le hp1 (Nat.le_mul_of_pos_right _ (by omega))
  have a2 : 1 < q * r := Nat.lt_of_lt_of_le hq1 (Nat.le_mul_of_pos_right _ (by omega))
  have m1 := h.mon (p * q) (by simp) a1
  have m2 := h.mon (q * r) (by simp) a2
  obtain ⟨es, l1, v1⟩ := m1.pp
  obtain ⟨fs, l2, v2⟩ := m2.pp
  have cpr : Nat.Coprime p r := hr.2 p (ndv hr hp (by omega))
  have hg : Nat.gcd (p * q) (q * r) = q := by
    rw [Nat.mul_comm p q, Nat.gcd_mul_left]
    have : Nat.gcd p r = 1 := cpr
    rw [this, Nat.mul_one]
  have mq : q ∈ bs := prime_item h.pc hq (mon_pp bs (List.zipWith min es fs) fun c hc => hc) (by rw [pp_gcd h.pc l1 l2, v1, v2, hg])
  have dv : ∀ b ∈ bs, b ∣ p * q ∨ b ∣ q * r := fun b hb => by
    obtain ⟨x, hx, _, hd⟩ := h.dvd b hb
    rcases List.mem_cons.mp hx with e | hx
    · rw [e] at hd
      exact .inl hd
    · rw [List.mem_singleton.mp hx] at hd
      exact .inr hd
  have mp : p ∈ bs := by
    obtain ⟨b, hb, hd⟩ := prm_mon hp m1 (Nat.dvd_mul_right _ _)
    have hbq : b ≠ q := fun z => ndv hp hq (by omega) (by rw [← z]; exact hd)
    have co := PC.cop h.pc hb mq hbq
    rcases dv b hb with g | g
    · have := Nat.Coprime.dvd_of_dvd_mul_right co g
      rw [← Nat.dvd_antisymm this hd]
      exact hb
    · exfalso
      rcases dm hp (Nat.dvd_trans hd g) with g1 | g1
      · exact ndv hp hq (by omega) g1
      · exact ndv hp hr (by omega) g1
  have mr : r ∈ bs := by
    obtain ⟨b, hb, hd⟩ := prm_mon hr m2 (Nat.dvd_mul_left _ _)
    have hbq : b ≠ q := fun z => ndv hr hq (by omega) (by rw [← z]; exact hd)
    have co := PC.cop h.pc hb mq hbq
    rcases dv b hb with g | g
    · exfalso
      rcases dm hr (Nat.dvd_trans hd g) with g1 | g1
      · exact ndv hr hp (by omega) g1
      · exact ndv hr hq (by omega) g1
    · have := Nat.Coprime.dvd_of_dvd_mul_left co g
      rw [← Nat.dvd_antisymm this hd]
      exact hb
  have all : ∀ b ∈ bs, b = p ∨ b = q ∨ b = r := fun b hb => by
    apply Classical.byContradiction
    intro hn
    have c1 := PC.cop h.pc hb mp fun z => hn (.inl z)
    have c2 := PC.cop h.pc hb mq fun z => hn (.inr (.inl z))
    have c3 := PC.cop h.pc hb mr fun z => hn (.inr (.inr z))
    have b1 := h.pc.gt b hb
    rcases dv b hb with g | g
    · have c : Nat.gcd b (p * q) = 1 := Nat.Coprime.mul_right c1 c2
      rw [Nat.gcd_eq_left g] at c
      omega
    · have c : Nat.gcd b (q * r) = 1 := Nat.Coprime.mul_right c2 c3
      rw [Nat.gcd_eq_left g] at c
      omega
  have nd : bs.Nodup := h.pc.co.imp_of_mem fun {a c} ha hc hac hac' => by
    subst hac'
    have h1 : Nat.gcd a a = 1 := hac
    rw [Nat.gcd_self] at h1
    have := h.pc.gt a ha
    omega
  refine sorted_ext (r := (· < ·)) (fun a => Nat.lt_irrefl a) (fun a b h1 h2 => absurd (Nat.lt_trans h1 h2) (Nat.lt_irrefl _)) (lt_of_le_nodup h.srt nd) ?_ fun k => ?_
  · simp
    omega
  · constructor
    · intro hk
      simpa using all k hk
    · intro hk
      have : k = p ∨ k = q ∨ k = r := by simpa using hk
      rcases this with e | e | e <;> rw [e] <;> assumption
section
variable {e : DEnv} {t u : TD} {xs ys : List D}
theorem ev_cat (h : EV t e (· = .lst xs)) (h2 : EV u e (· = .lst ys)) (hl : Nat.ble (xs.length + ys.length) 1000 = true) : EV (dNew (fCat (oVal t) (oVal u))) e (· = .lst (xs ++ ys)) := fun Q hq => h _ fun d hd => h2 _ fun d2 hd2 => by
  subst hd hd2
  exact ⟨xs, ys, rfl, rfl, star_le hl, hq _ rfl⟩
theorem ev_of {v : Nat} (h1 : 1 ≤ v) (h2 : v ≤ 10 ^ 20) (h : EV t e (· = .int v)) : EV (dCMeth "Number" sp_Number_of (aCons t aNil)) e (· = num (ofW v)) := fun Q hq => h _ fun d hd => by
  subst hd
  exact ⟨v, rfl, h1, h2, hq _ rfl⟩
end
theorem ofW_gt {v : Nat} (h : 1 < v) : ofW v = [(v, 1)] := if_pos h
theorem ofW_row {v : Nat} {es : List Nat} (h : 1 < v) (h2 : v ≤ 10 ^ 20) (hl : es.length = 7) (hv : v = pp gps es) (hs : ∃ k, v ∣ gR ^ k) : RowK gps (ofW v, es) := by
  have e := ofW_gt h
  refine ⟨?_, hl, ?_⟩
  · show WF gR (ofW v)
    rw [e]
    exact ⟨fun p hp => by rw [List.mem_singleton.mp hp]; exact ⟨⟨h, h2, hs⟩, Nat.le_refl 1⟩, by simp⟩
  · show val (ofW v) = pp gps es
    rw [e, ← hv]
    show v ^ 1 * 1 = v
    rw [Nat.pow_one, Nat.mul_one]
theorem gps_gp : GP gps := ⟨by decide, fun p hp => hp⟩
theorem fLen_kl {xs : List D} : fLen [.klst xs] = some (.int xs.length) := rfl
def cA : Nat := 9999999929 * 9999999943
def cB : Nat := 9999999943 * 9999999967
theorem rowA : RowK gps (ofW cA, [0, 0, 0, 0, 1, 1, 0]) := ofW_row (by decide) (by decide) rfl (by decide +kernel) ⟨1, by decide +kernel⟩
theorem rowB : RowK gps (ofW cB, [0, 0, 0, 0, 0, 1, 1]) := ofW_row (by decide) (by decide) rfl (by decide +kernel) ⟨1, by decide +kernel⟩
def c0 : Nat := 1000000007
theorem c0_v : c0 = pp gps [1, 0, 0, 0, 0, 0, 0] := by
  show c0 = 1000000007 ^ 1 * (1000000009 ^ 0 * (2147483647 ^ 0 * (4294967291 ^ 0 * (9999999929 ^ 0 * (9999999943 ^ 0 * (9999999967 ^ 0 * 1))))))
  decide +kernel
theorem c0_d : ∃ k, c0 ∣ gR ^ k := ⟨1, by rw [Nat.pow_one]; decide +kernel⟩
theorem row0 : RowK gps (ofW c0, [1, 0, 0, 0, 0, 0, 0]) := ofW_row (by decide) (by decide) rfl c0_v c0_d
theorem gcdAB : Nat.gcd (val (ofW cA)) (val (ofW cB)) = pp gps [0, 0, 0, 0, 0, 1, 0] := by
  have e1 : val (ofW cA) = pp gps [0, 0, 0, 0, 1, 1, 0] := rowA.vl
  have e2 : val (ofW cB) = pp gps [0, 0, 0, 0, 0, 1, 1] := rowB.vl
  rw [e1, e2]
  decide +kernel
theorem does_law : Does 6 rd_law sp_law := by
  rintro ds Q ⟨ns, rfl, hl, hQ⟩
  unfold rd_law
  have great : ∀ e : DEnv, EV (dApp0 sp_law_great) e (· = .lst (intsD gps)) := fun e Q hq => ⟨rfl, hq _ rfl⟩
  refine sasg1 (great _) ?_
  refine sasg1 (ev_of (v := cA) (by decide) (by decide) (ev_op1 (ov_val (ev_op1 (ov_sh rfl) (ov_val ev_c) (z := .int (9999999929 : Nat)) rfl)) (ov_val (ev_op1 (ov_sh rfl) (ov_val ev_c) (z := .int (9999999943 : Nat)) rfl)) (fMul_w (small_4000 (by decide)) (small_4000 (by decide))))) ?_
  refine sasg1 (ev_of (v := cB) (by decide) (by decide) (ev_op1 (ov_val (ev_op1 (ov_sh rfl) (ov_val ev_c) (z := .int (9999999943 : Nat)) rfl)) (ov_val (ev_op1 (ov_sh rfl) (ov_val ev_c) (z := .int (9999999967 : Nat)) rfl)) (fMul_w (small_4000 (by decide)) (small_4000 (by decide))))) ?_
  refine sif (ov_notn (nv_is (es := [0, 0, 0, 0, 0, 1, 0]) (x := Nat.gcd (val (ofW cA)) (val (ofW cB))) gps_gp (show [0, 0, 0, 0, 0, 1, 0].length = gps.length from rfl) gcdAB (nv_and gR_ok (nv_slot rfl rowA.wf) (nv_slot rfl rowB.wf)) (ev_var rfl) (ev_lst1 (ds := intsD [0, 0, 0, 0, 0, 1, 0]) (av1 ev_c (av1 ev_c (av1 ev_c (av1 ev_c (av1 ev_c (av1 ev_c (av1 ev_c av_nil))))))) rfl))) rfl ?_
  have ec : EV (dApp sp_coprime_base (aCons (dVar 2) (aCons (dVar 3) aNil))) [.sh (.klst (ns.map D.int)), .sh (.lst (intsD gps)), .sh (num (ofW cA)), .sh (num (ofW cB)), .un, .un] (· = .tup (intsD [9999999929, 9999999943, 9999999967])) := by
    refine (nv_cpb2 rowA.wf rowB.wf (ev_var rfl) (ev_var rfl)).imp fun d ⟨bs, h1, h2⟩ => ?_
    rw [h1]
    have e1 : basesL [ofW cA, ofW cB] = [9999999929 * 9999999943, 9999999943 * 9999999967] := by
      rw [ofW_gt (show 1 < cA by decide), ofW_gt (show 1 < cB by decide)]
      rfl
    rw [e1] at h2
    rw [base_three (gps_prm _ (by decide)) (gps_prm _ (by decide)) (gps_prm _ (by decide)) (by decide) (by decide) h2]
  refine sif (k := false) (tv_bl (ev_op1 (ov_val ec) (ov_val (ev_tup1 (ds := intsD [9999999929, 9999999943, 9999999967]) (av1 (ev_op1 (ov_sh rfl) (ov_val ev_c) rfl) (av1 (ev_op1 (ov_sh rfl) (ov_val ev_c) rfl) (av1 (ev_op1 (ov_sh rfl) (ov_val ev_c) rfl) av_nil))) rfl)) rfl)) rfl ?_
  have e0 : EV (dCMeth "Number" sp_Number_of (aCons (dOp fIx (oSlot 1) (oVal (dC (.int 0)))) aNil)) [.sh (.klst (ns.map D.int)), .sh (.lst (intsD gps)), .sh (num (ofW cA)), .sh (num (ofW cB)), .un, .un] (· = num (ofW c0)) := ev_of (v := c0) (by decide) (by decide) (ev_op1 (ov_sh rfl) (ov_val ev_c) rfl)
  refine sasg (nv_cpb2 rowA.wf row0.wf (ev_var rfl) e0) fun d ⟨bs, h1, h2⟩ => ?_
  subst h1
  have rw2 : EV (dNew (fLst (aCons (dNew (fLst (aCons (dC (.int 0)) (aCons (dC (.int 0)) (aCons (dC (.int 0)) (aCons (dC (.int 0)) (aCons (dC (.int 1)) (aCons (dC (.int 1)) (aCons (dC (.int 0)) aNil))))))))) (aCons (dNew (fCat (oVal (dNew (fLst (aCons (dC (.int 1)) aNil)))) (oVal (dNew (fRep (oVal (dNew (fLst (aCons (dC (.int 0)) aNil)))) (oVal (dC (.int 6)))))))) aNil)))) [.sh (.klst (ns.map D.int)), .sh (.lst (intsD gps)), .sh (num (ofW cA)), .sh (num (ofW cB)), .sh (.tup (intsD bs)), .un] (· = .lst (rowsD ([(ofW cA, [0, 0, 0, 0, 1, 1, 0]), (ofW c0, [1, 0, 0, 0, 0, 0, 0])].map fun r : RowT17 => r.2))) :=
    ev_lst1 (av1 (ev_lst1 (av1 ev_c (av1 ev_c (av1 ev_c (av1 ev_c (av1 ev_c (av1 ev_c (av1 ev_c av_nil))))))) rfl) (av1 (ev_cat (ev_lst1 (av1 ev_c av_nil) rfl) (ev_rep (ov_val (ev_lst1 (av1 ev_c av_nil) rfl)) (ov_val ev_c) ⟨by decide, by decide⟩ rfl) rfl) av_nil)) rfl
  refine sif (ov_notn (nv_baseR (rs := [(ofW cA, [0, 0, 0, 0, 1, 1, 0]), (ofW c0, [1, 0, 0, 0, 0, 0, 0])]) gps_gp (fun r hr => ?_) (by simp) (by decide) (ev_var rfl) ((ev_var rfl).imp fun d hd => ⟨bs, hd, h2⟩) rw2)) rfl ?_
  · rcases List.mem_cons.mp hr with e | hr
    · rw [e]
      exact rowA
    · rw [List.mem_singleton.mp hr]
      exact row0
  refine ⟨_, _, rfl, fLen_kl, _, _, rfl, fMin2 _ 4, _, _, rfl, fMax2 2 _, _, rfl, by omega, by omega, ?_⟩
  refine ⟨le_line (by rw [List.length_map, List.length_range]; omega), ?_⟩
  show lcL _ [5] _ _ _ _ _ [] [.sh (.klst (ns.map D.int)), .sh (.lst (intsD gps)), .sh (num (ofW cA)), .sh (num (ofW cB)), .sh (.tup (intsD bs)), .un]
  refine lcL_map (f := fun _ => some (.bl true)) trivial (fun i hi K1 hK => ?_) ?_
  · have hi2 := List.mem_range.mp hi
    exact ⟨ns, i, rfl, by omega, fun c => ⟨c, rfl, rfl, hK⟩⟩
  · rw [List.nil_append, fm_some]
    generalize List.range _ = z
    have e1 : (z.map fun _ => D.bl true) = (z.map fun _ => true).map D.bl := by rw [List.map_map] <;> rfl
    rw [e1]
    refine ⟨_, _, rfl, by show (blsOf _).map _ = _; rw [blsOf_map] <;> rfl, ?_⟩
    have e2 : (z.map fun _ => true).all id = true := by simp
    show Q (.bl ((z.map fun _ => true).all id))
    rw [e2]
    exact hQ
end DL
set_option Elab.async false
set_option linter.all false
set_option maxRecDepth 100000
set_option maxHeartbeats 4000000
/-! JH: the head's facts for a law -/
namespace DL
open PySem PySem.Spec L2
/-! ### a def that stands at an address of one's own -/
abbrev Path := PySem.W.Frag → Addr
def lookF (K : PySem.W.Frag) (a : Addr) : He.FnW := match K.lookup a with
  | some ⟨_, _, .func fd, _⟩ => some (fd.name, fd.qualname, fd.params, fd.body, fd.scope, fd.globals, fd.closure, fd.builtins)
  | _ => none
def plainF (K : PySem.W.Frag) (a : Addr) (q : Str) : Bool := PySem.W.keepIn K (.ref a) && (match K.lookup a with
  | some ⟨_, _, .func fd, _⟩ => PySem.W.codeIn K fd.code q && (He.dflB K fd.defaults [] && He.kwdB K fd.kwdefaults [])
  | _ => false)
theorem funD_at {K : PySem.W.Frag} {a : Addr} {d : He.DefD} (e : lookF K a = d.val) (c : plainF K a d.qual = true) : ∃ fd, FunD K d.name d.qual d.params d.body d.scope [] [] a fd := by
  obtain ⟨kp, c2⟩ := He.ba c
  unfold lookF at e
  cases h : K.lookup a with
  | none => rw [h] at c2; cases c2
  | some o =>
    obtain ⟨o1, o2, o3, o4⟩ := o
    rw [h] at c2 e
    cases o3 with
    | func fd =>
      obtain ⟨m1, m2, m3, m4, m5, m6, m7, m8, m9, m10, m11, m12, m13, m14, m15⟩ := fd
      have e2 : (some (m1, m2, m3, m4, m5, m6, m7, m15) : He.FnW) = some (d.name, d.qual, d.params, .stmts d.body, d.scope, mainGlobals, [], builtinsNs) := e
      simp only [Option.some.injEq, Prod.mk.injEq] at e2
      obtain ⟨g1, g2, g3, g4, g5, g6, g7, g8⟩ := e2
      subst g1 g2 g3 g4 g5 g6 g7 g8
      obtain ⟨k1, k2⟩ := He.ba (show (PySem.W.codeIn K m13 d.qual && (He.dflB K m8 [] && He.kwdB K m9 [])) = true from c2)
      obtain ⟨k3, k4⟩ := He.ba k2
      exact ⟨_, ⟨o1, o2, m8, m9, m10, m11, m12, m13, m14, o4, rfl, h, k1, He.dflB_ok k3, He.kwdB_ok k4⟩, kp⟩
    | _ => cases c2
/-! ### the hook: facts, defs, one more Bool, defs by paths -/
abbrev AlZ : Type := He.AlD × Bool × List He.FnW
def obsZ (fa : List He.Fa) (fn : List He.DefD) (ex : PySem.W.Frag → Bool) (px : List (Path × He.DefD)) (K : PySem.W.Frag) : AlZ :=
  (He.obsD fa fn K, ex K && px.all (fun q => plainF K (q.1 K) q.2.qual), px.map fun q => lookF K (q.1 K))
def valZ (fn : List He.DefD) (px : List (Path × He.DefD)) : AlZ := (He.valD fn, true, px.map fun q => q.2.val)
structure SaysZ (fa : List He.Fa) (fn : List He.DefD) (ex : PySem.W.Frag → Bool) (px : List (Path × He.DefD)) (K : PySem.W.Frag) : Prop where
  d : He.SaysD fa fn K
  ex : ex K = true
  px : ∀ q ∈ px, ∃ fd, FunD K q.2.name q.2.qual q.2.params q.2.body q.2.scope [] [] (q.1 K) fd
theorem map_eq_at {α β : Type} {f g : α → β} : ∀ {l : List α}, l.map f = l.map g → ∀ x ∈ l, f x = g x
  | [], _, x, hx => nomatch hx
  | a :: l, h, x, hx => by
    rw [List.map_cons, List.map_cons] at h
    injection h with h1 h2
    rcases List.mem_cons.mp hx with e | hx
    · rw [e]
      exact h1
    · exact map_eq_at h2 x hx
theorem saysZ_of {fa : List He.Fa} {fn : List He.DefD} {ex : PySem.W.Frag → Bool} {px : List (Path × He.DefD)} {K : PySem.W.Frag} (e : obsZ fa fn ex px K = valZ fn px) : SaysZ fa fn ex px K := by
  have e1 : He.obsD fa fn K = He.valD fn := congrArg (fun z : AlZ => z.1) e
  have e2 : (ex K && px.all (fun q => plainF K (q.1 K) q.2.qual)) = true := congrArg (fun z : AlZ => z.2.1) e
  have e3 : (px.map fun q => lookF K (q.1 K)) = px.map fun q => q.2.val := congrArg (fun z : AlZ => z.2.2) e
  obtain ⟨h1, h2⟩ := He.ba e2
  exact ⟨e1, h1, fun q hq => funD_at (map_eq_at e3 q hq) (List.all_eq_true.mp h2 q hq)⟩
/-- what is looked at, and the machine's own statics -/
def asZ (g : Addr → Option Obj) (n : Nat) : List Addr := cStatics :: He.asD g n
def obsZG (n : Nat) (fa : List He.Fa) (fn : List He.DefD) (ex : PySem.W.Frag → Bool) (px : List (Path × He.DefD)) (g : Addr → Option Obj) : AlZ := obsZ fa fn ex px (He.frG g (asZ g n))
def hookZ (n : Nat) (fa : List He.Fa) (fn : List He.DefD) (ex : PySem.W.Frag → Bool) (px : List (Path × He.DefD)) : PySem.W.Hook where
  α := AlZ
  obs := fun s => obsZG n fa fn ex px s.heap.get?
  val := fun _ => valZ fn px
  says := fun _ h => ∃ K : PySem.W.Frag, K.In h ∧ SaysZ fa fn ex px K
  of := fun _ _ e => ⟨_, He.frG_in, saysZ_of e⟩
  keeps := fun _ _ _ ⟨K, hK, c⟩ k => ⟨K, PySem.W.Frag.In.keeps hK k, c⟩
theorem obsZG_eq {n : Nat} {fa : List He.Fa} {fn : List He.DefD} {ex : PySem.W.Frag → Bool} {px : List (Path × He.DefD)} {g : Addr → Option Obj} {s : Shared} (h : ∀ a, g a = s.heap.get? a) : obsZG n fa fn ex px g = (hookZ n fa fn ex px).obs s := by
  have e : g = s.heap.get? := funext h
  rw [e] <;> rfl
/-! ### classes -/
def clsiB (K : PySem.W.Frag) (C : Addr) : Bool := He.eqO (PySem.W.findIn K (.ref C) "__class__") (some (some (.builtin "object.__class__"))) && (He.eqO (PySem.W.specialIn K (.builtin "object.__class__") "__get__") (some (some (.builtin "getset_descriptor.__get__"))) &&
  (decide (PySem.W.takesIn K (.builtin "object.__class__") = some true) && decide (PySem.W.mroIn K C (.type "object") = some true)))
theorem clsiB_ok {K : PySem.W.Frag} {C : Addr} (c : Cls K C) (h : clsiB K C = true) : ClsI K C := by
  obtain ⟨h1, h⟩ := He.ba h
  obtain ⟨h2, h⟩ := He.ba h
  obtain ⟨h3, h4⟩ := He.ba h
  exact ⟨c, He.eqO_ok h1, He.eqO_ok h2, of_decide_eq_true h3, of_decide_eq_true h4⟩
def neB (K : PySem.W.Frag) (C : Addr) : Bool := PySem.W.selfFirst K C && He.eqO (PySem.W.findIn K (.ref C) "__ne__") (some (some (.builtin "object.__ne__")))
def fmB (K : PySem.W.Frag) (C : Addr) : Bool := He.eqO (PySem.W.findIn K (.ref C) "__format__") (some (some (.builtin "object.__format__"))) && decide (PySem.W.mroIn K C (.type "object") = some true)
theorem fmB_ok {K : PySem.W.Frag} {C : Addr} (h : fmB K C = true) : Fm K C := by
  obtain ⟨h1, h2⟩ := He.ba h
  exact ⟨He.eqO_ok h1, of_decide_eq_true h2⟩
/-- a classmethod's record, its def -/
def cmP (K : PySem.W.Frag) (C : Addr) (m : Str) : Addr := match PySem.W.findCls K (.ref C) (.type "type") m with
  | some (.get _ (.ref p) _ _) => p
  | _ => 0
def cmG (K : PySem.W.Frag) (C : Addr) (m : Str) : Addr := match PySem.W.recIn K (cmP K C m) "classmethod" with
  | some (.ref g :: _) => g
  | _ => 0
def cmB (K : PySem.W.Frag) (C : Addr) (m : Str) : Bool := PySem.W.readsIn K C (.type "type") && (He.eqO (PySem.W.specialIn K (.ref C) "__getattribute__") (some (some (.builtin "type.__getattribute__"))) && ((match PySem.W.findCls K (.ref C) (.type "type") m with
  | some (.get (.builtin s) (.ref p) .none (.ref C')) => decide (s = "classmethod.__get__") && decide (C' = C)
  | _ => false) && ((match PySem.W.recIn K (cmP K C m) "classmethod" with
  | some (.ref g :: _) => true
  | _ => false) && PySem.W.fnIn K (cmG K C m))))
theorem cmB_ok {K : PySem.W.Frag} {C : Addr} {m : Str} (h : cmB K C m = true) : ClX.CRead K C (.type "type") ∧ ClX.CMet K C (.type "type") m (cmP K C m) (cmG K C m) := by
  obtain ⟨h1, h⟩ := He.ba h
  obtain ⟨h2, h⟩ := He.ba h
  obtain ⟨h3, h⟩ := He.ba h
  obtain ⟨h4, h5⟩ := He.ba h
  refine ⟨⟨h1, He.eqO_ok h2⟩, ?_, ?_, h5⟩
  · unfold cmP
    split at h3
    · rename_i s p C' q
      obtain ⟨a, b⟩ := He.ba h3
      rw [q, of_decide_eq_true a, of_decide_eq_true b]
    · cases h3
  · unfold cmG
    split at h4
    · rename_i g rest q
      exact ⟨rest, by rw [q]⟩
    · cases h4
/-- the same, reached through an instance -/
def ciB (K : PySem.W.Frag) (C : Addr) (m : Str) : Bool := PySem.W.plainGet K C Str.empty && (PySem.W.isClsIn K C && (He.eqO (PySem.W.findIn K (.ref C) m) (some (some (.ref (cmP K C m)))) && ((match PySem.W.typeIn K (.ref (cmP K C m)) with
  | some (.type s) => decide (s = "classmethod")
  | _ => false) && (He.eqO (PySem.W.specialIn K (.ref (cmP K C m)) "__get__") (some (some (.builtin "classmethod.__get__"))) && (decide (PySem.W.takesIn K (.ref (cmP K C m)) = some false) && ((!PySem.W.copiedNames.contains m) && ((match PySem.W.recIn K (cmP K C m) "classmethod" with
  | some (.ref g :: _) => true
  | _ => false) && PySem.W.fnIn K (cmG K C m))))))))
theorem ciB_ok {K : PySem.W.Frag} {C : Addr} {m : Str} (h : ciB K C m = true) : ClX.CInst K C m (cmP K C m) (cmG K C m) := by
  obtain ⟨h1, h⟩ := He.ba h
  obtain ⟨h2, h⟩ := He.ba h
  obtain ⟨h3, h⟩ := He.ba h
  obtain ⟨h4, h⟩ := He.ba h
  obtain ⟨h5, h⟩ := He.ba h
  obtain ⟨h6, h⟩ := He.ba h
  obtain ⟨h7, h⟩ := He.ba h
  obtain ⟨h8, h9⟩ := He.ba h
  refine ⟨h1, h2, He.eqO_ok h3, ?_, He.eqO_ok h5, of_decide_eq_true h6, by simpa using h7, ?_, h9⟩
  · split at h4
    · rename_i s q
      rw [q, of_decide_eq_true h4]
    · cases h4
  · unfold cmG
    split at h8
    · rename_i g rest q
      exact ⟨rest, by rw [q]⟩
    · cases h8
end DL
set_option Elab.async false
set_option linter.all false
set_option maxRecDepth 100000
set_option maxHeartbeats 4000000
set_option exponentiation.threshold 10000
/-! JN: a weaker promise -/
namespace DL
open PySem PySem.Spec L2 DM
theorem LSp.imp {K : PySem.W.Frag} {ca : Str → Addr} {sp sp' : DSp} (h : ∀ ds Q, sp' ds Q DX0 → sp ds Q DX0) : ∀ vs H Q E, LSp K ca sp' vs H Q E → LSp K ca sp vs H Q E := fun vs H Q E ⟨B, ds, Q', hB, hd, hs, imp⟩ => ⟨B, ds, Q', hB, hd, h _ _ hs, imp⟩
theorem Df.imp {P : Program} {w : World} {K : PySem.W.Frag} {mg : Str → Option Value} {base : Heap} {ca : Str → Addr} {k : Nat} {name : Str} {sp sp' : DSp} (d : Df P w K mg base ca k name sp) (h : ∀ ds Q, sp' ds Q DX0 → sp ds Q DX0) : Df P w K mg base ca k name sp' := by
  obtain ⟨f, hm, c⟩ := d
  exact ⟨f, hm, c.1, fun X e1 e2 e3 e4 e5 hr => by
    have r := c.2 X e1 e2 e3 e4 e5 hr
    exact fun pins s σ H xs us Q I rv q => r pins s σ H xs us Q I rv (LSp.imp h _ _ _ _ q)⟩
theorem wf_one {v : Nat} (h1 : 2 ≤ v) (h2 : v ≤ 10 ^ 20) (k : Nat) (hk : 1 ≤ k) : WF v [(v, k)] :=
  ⟨fun p hp => by rw [List.mem_singleton.mp hp]; exact ⟨⟨h1, h2, 1, by rw [Nat.pow_one]; exact Nat.dvd_refl _⟩, hk⟩, by simp⟩
theorem does_Number_of : Does 2 rd_Number_of sp_Number_of := by
  rintro ds Q ⟨v, rfl, h1, h2, hQ⟩
  have t1 : decide ((1 : Int) ≤ (v : Int) ∧ (v : Int) ≤ 100000000000000000000) = true := decide_eq_true ⟨by omega, by omega⟩
  refine .inr ⟨_, _, _, rfl, ?_⟩
  rw [t1]
  refine ⟨_, _, rfl, rfl, ?_⟩
  refine ⟨_, _, _, rfl, rfl, fGt_nat v 1, _, rfl, ?_⟩
  unfold ofW at hQ
  by_cases h : 1 < v
  · rw [decide_eq_true h]
    rw [if_pos h] at hQ
    exact ⟨rfl, len_line rfl, Nat.zero_le _, star_le rfl, v, [(v, 1)], rfl, wf_one h h2 1 (Nat.le_refl 1), hQ⟩
  · rw [decide_eq_false h]
    rw [if_neg h] at hQ
    exact ⟨rfl, Nat.zero_le _, star_le rfl, lawR, [], rfl, wf_nil, hQ⟩
end DL
set_option Elab.async false
set_option linter.all false
set_option maxRecDepth 100000
set_option maxHeartbeats 0
set_option exponentiation.threshold 10000
namespace DL
open PySem PySem.Spec L2
def clsBody : Stmt → List Stmt
  | .ClassDef (body := b) .. => b
  | _ => []
def top (i : Nat) : Stmt := PySem.Challenge.pw_sharetable_k17_whole_products_of_great_p.main.body.getD i (.Pass ⟨0, 0, 0, 0⟩)
theorem bt_dm : bootBuiltins "divmod" = some (.builtin "divmod") := by decide +kernel
theorem bt_len : bootBuiltins "len" = some (.builtin "len") := by decide +kernel
theorem bt_abs : bootBuiltins "abs" = some (.builtin "abs") := by decide +kernel
theorem bt_min : bootBuiltins "min" = some (.builtin "min") := by decide +kernel
theorem bt_max : bootBuiltins "max" = some (.builtin "max") := by decide +kernel
theorem bt_sum : bootBuiltins "sum" = some (.builtin "sum") := by decide +kernel
theorem bt_all : bootBuiltins "all" = some (.builtin "all") := by decide +kernel
theorem bt_any : bootBuiltins "any" = some (.builtin "any") := by decide +kernel
theorem bt_isinstance : bootBuiltins "isinstance" = some (.builtin "isinstance") := by decide +kernel
theorem bt_sorted : bootBuiltins "sorted" = some (.builtin "sorted") := by decide +kernel
theorem bt_repr : bootBuiltins "repr" = some (.builtin "repr") := by decide +kernel
theorem bt_int : bootBuiltins "int" = some (.type "int") := by decide +kernel
theorem bt_str : bootBuiltins "str" = some (.type "str") := by decide +kernel
theorem bt_bool : bootBuiltins "bool" = some (.type "bool") := by decide +kernel
theorem bt_tuple : bootBuiltins "tuple" = some (.type "tuple") := by decide +kernel
theorem bt_list : bootBuiltins "list" = some (.type "list") := by decide +kernel
theorem bt_set : bootBuiltins "set" = some (.type "set") := by decide +kernel
theorem de_con {X : Cx} {ca : Str → Addr} {H0 : Hp} {n : Str} {d : D} {v : V} {pos : Pos} (hg : Gl X n) (hm : ∃ u, X.mg n = some u ∧ RelV v u) (hd : ∀ H k, Dv X.K ca H k d v) (hdb : (n == ("__debug__" : Str)) = false := by decide) : DE X ca H0 (.Name n pos) (dC d) := by
  obtain ⟨u, h1, h2⟩ := hm
  exact de_glob hg h1 h2 hd hdb
abbrev FnP (K : PySem.W.Frag) (x q : Str) (st : Stmt) (f : Addr) (fd : FuncData) : Prop := FunD K x q (defArgs st) (defBody st) (defScope st) [] [] f fd
section
variable {P : Program} {w : World} {K : PySem.W.Frag} {mg : Str → Option Value} {base : Heap} {ca : Str → Addr}
/-! _law_base_right -/
abbrev st_law_base_right : Stmt := top 56
abbrev N_law_base_right : List Str := ["_law_primes", "_law_told", "_law_rows", "_law_parts", "_law_item", "_law_k", "_law_used", "_law_exps", "_law_spread", "_law_part"]
abbrev P_law_base_right : List Str := ["_law_primes", "_law_told", "_law_rows"]
theorem nd_law_base_right : N_law_base_right.Nodup := by decide +kernel
theorem sc_law_base_right : FnScope N_law_base_right P_law_base_right (defScope st_law_base_right) := ⟨rfl, rfl, rfl, nd_law_base_right, rfl, by decide +kernel, by decide +kernel⟩
theorem dd_law_base_right (f_len : mg "len" = none) (f_list : mg "list" = none) (f_max : mg "max" = none) (f_range : mg "range" = none) (f_set : mg "set" = none) (f_sorted : mg "sorted" = none) {f : Addr} {cdv : Value} {A : Around} {outer : List Env} {s : Shared} {H : Hp} {E : XK} (hr : Room 0 (A.deeper (PyProof.Rows.envOfC "_law_base_right" (defScope st_law_base_right) s.heap.objs.size f cdv))) :
    DSs (cxOf CX0 P w K mg base N_law_base_right "_law_base_right" (defScope st_law_base_right) f cdv A outer s H E) ca H (defBody st_law_base_right) (rd_law_base_right) :=
  (dss_cons (ds_setLc (i := 3) (own := [("_law_item", 4)]) (by rfl) nd_law_base_right (by rfl) (by rfl) (sw_true (by rfl) (by rfl) (by rfl) (by decide +kernel)) (DI.fix (di_seq (de_var (pv 1)))) (blkOk_by (own := [("_law_item", 4)]) (N := N_law_base_right) (sc := defScope st_law_base_right) (by decide +kernel)) (fun _ _ _ _ _ => (dg_name (i := 4) nd_law_base_right (by rfl) (by first | exact .inl rfl | exact .inr rfl))) (fun _ _ _ _ _ => dts_nil) (fun _ _ _ _ _ => (de_new (df_lc (own := [("_law_k", 5)]) (by rfl) nd_law_base_right (DI.fix (di_range1 (by rfl) f_range (dao_cons (do_val (de_callB call_len cd_len (by rfl) f_len bt_len (dao_cons (do_slot (pv 0)) dao_nil))) dao_nil))) (blkOk_by (own := [("_law_k", 5)]) (by kernel_rfl)) (fun _ _ _ _ _ => (dg_name (i := 5) nd_law_base_right (by rfl) (by first | exact .inl rfl | exact .inr rfl))) (fun _ _ _ _ _ => (dts_one (dt_cmp (op_eqD hr.units) od_eq (do_val (de_op op_mod od_mod (do_slot (pv 4)) (do_val (de_ix (do_slot (pv 0)) (do_slot (pv 5)))))) (do_val de_int) (nomark _)))) (fun _ _ _ _ _ => (de_var (pv 5))))))) (dss_cons (ds_setLc (i := 6) (own := [("_law_k", 5)]) (by rfl) nd_law_base_right (by rfl) (by rfl) (sw_true (by rfl) (by rfl) (by rfl) (by decide +kernel)) (DI.fix (di_range1 (by rfl) f_range (dao_cons (do_val (de_callB call_len cd_len (by rfl) f_len bt_len (dao_cons (do_slot (pv 0)) dao_nil))) dao_nil))) (blkOk_by (own := [("_law_k", 5)]) (N := N_law_base_right) (sc := defScope st_law_base_right) (by decide +kernel)) (fun _ _ _ _ _ => (dg_name (i := 5) nd_law_base_right (by rfl) (by first | exact .inl rfl | exact .inr rfl))) (fun _ _ _ _ _ => (dts_one (dt_cmp op_gt od_gt (do_val (de_callB ((call_max2 (by rfl)).or (cr_max (by rfl))) cd_max (by rfl) f_max bt_max (dao_cons (do_val (de_new (df_lc (own := [("_law_exps", 7)]) (by rfl) nd_law_base_right (DI.fix (di_seq (de_var (pv 2)))) (blkOk_by (own := [("_law_exps", 7)]) (by kernel_rfl)) (fun _ _ _ _ _ => (dg_name (i := 7) nd_law_base_right (by rfl) (by first | exact .inl rfl | exact .inr rfl))) (fun _ _ _ _ _ => dts_nil) (fun _ _ _ _ _ => (de_ix (do_slot (pv 7)) (do_slot (pv 5))))))) dao_nil))) (do_val de_int) (nomark _)))) (fun _ _ _ _ _ => (de_var (pv 5)))) (dss_cons (ds_asg (de_new (df_lst da_nil)) (dg_name (i := 8) nd_law_base_right (by rfl) (by first | exact .inl rfl | exact .inr rfl))) (dss_cons (ds_for (passes_of rfl) (by rfl) (di_seq (de_var (pv 3))) (dg_name (i := 9) nd_law_base_right (by rfl) (by first | exact .inl rfl | exact .inr rfl)) (dss_one (ds_asg (de_new (df_cat (do_slot (pv 8)) (do_slot (pv 9)))) (dg_name (i := 8) nd_law_base_right (by rfl) (by first | exact .inl rfl | exact .inr rfl))))) (dss_one (ds_ret (de_and (de_cmp (op_eqD hr.units) od_eq (do_val (de_new (df_callB cr_sortedI cf_sorted (by rfl) f_sorted bt_sorted (dao_cons (do_slot (pv 8)) dao_nil)))) (do_slot (pv 6)) (nomark _)) (de_and (de_cmp (or_notInD (Room.u65 hr)) od_notIn (do_val (de_new (df_lst da_nil))) (do_slot (pv 3)) (by with_unfolding_all rfl)) (de_one (de_cmp (op_eqD hr.units) od_eq (do_val (de_new (df_callTy call_list_of cf_list (by rfl) f_list bt_list (dao_cons (do_slot (pv 1)) dao_nil)))) (do_val (de_new (df_sortSet (by rfl) (by rfl) f_sorted bt_sorted (by rfl) f_set bt_set (do_slot (pv 1))))) (nomark _)))))))))))
theorem ok_law_base_right (f_len : mg "len" = none) (f_list : mg "list" = none) (f_max : mg "max" = none) (f_range : mg "range" = none) (f_set : mg "set" = none) (f_sorted : mg "sorted" = none) {f : Addr} {fd : FuncData} (F : FnP K "_law_base_right" "_law_base_right" st_law_base_right f fd) : FnR P w K mg base CX0 1 f (LSp K ca sp_law_base_right) :=
  fr_of F sc_law_base_right (F.bindsN fun _ _ _ _ _ _ us hl => match us, hl with | [_, _, _], _ => rfl) (fun ds Q h => by unfold sp_law_base_right at h; (repeat obtain ⟨_, h⟩ := h); subst_vars; rfl) (by decide) (fun cdv A outer s H E hr => dd_law_base_right f_len f_list f_max f_range f_set f_sorted hr) does_law_base_right
/-! _law_cell -/
abbrev st_law_cell : Stmt := top 46
abbrev N_law_cell : List Str := ["_law_script", "_law_k", "_law_mixed_here", "_law_cell_here"]
abbrev P_law_cell : List Str := ["_law_script", "_law_k"]
theorem nd_law_cell : N_law_cell.Nodup := by decide +kernel
theorem sc_law_cell : FnScope N_law_cell P_law_cell (defScope st_law_cell) := ⟨rfl, rfl, rfl, nd_law_cell, rfl, by decide +kernel, by decide +kernel⟩
theorem dd_law_cell (f_len : mg "len" = none) {f : Addr} {cdv : Value} {A : Around} {outer : List Env} {s : Shared} {H : Hp} {E : XK} (hr : Room 0 (A.deeper (PyProof.Rows.envOfC "_law_cell" (defScope st_law_cell) s.heap.objs.size f cdv))) :
    DSs (cxOf CX0 P w K mg base N_law_cell "_law_cell" (defScope st_law_cell) f cdv A outer s H E) ca H (defBody st_law_cell) (rd_law_cell) :=
  (dss_cons (ds_if (dt_cmp op_lt od_lt (do_slot (pv 1)) (do_val (de_callB call_len cd_len (by rfl) f_len bt_len (dao_cons (do_slot (pv 0)) dao_nil))) (nomark _)) (dss_one (ds_ret (de_ix (do_slot (pv 0)) (do_slot (pv 1))))) dss_nil) (dss_cons (ds_asg (de_op op_mod od_mod (do_val (de_op op_mulD od_mul (do_val de_int) (do_val (de_op or_addD od_add (do_val (de_op or_addD od_add (do_val (de_op op_mulD od_mul (do_slot (pv 1)) (do_slot (pv 1)))) (do_val (de_op op_mulD od_mul (do_val de_int) (do_slot (pv 1)))))) (do_val de_int))))) (do_val de_int)) (dg_name (i := 2) nd_law_cell (by rfl) (by first | exact .inl rfl | exact .inr rfl))) (dss_cons (ds_for (passes_of rfl) (by rfl) (di_seq (de_new (df_sl (do_slot (pv 0)) dpo_none (dpo_some (do_val de_int))))) (dg_name (i := 3) nd_law_cell (by rfl) (by first | exact .inl rfl | exact .inr rfl)) (dss_one (ds_asg (de_op op_mod od_mod (do_val (de_op or_addD od_add (do_val (de_op op_mulD od_mul (do_slot (pv 2)) (do_val de_int))) (do_slot (pv 3)))) (do_val de_int)) (dg_name (i := 2) nd_law_cell (by rfl) (by first | exact .inl rfl | exact .inr rfl))))) (dss_one (ds_ret (de_var (pv 2)))))))
theorem ok_law_cell (f_len : mg "len" = none) {f : Addr} {fd : FuncData} (F : FnP K "_law_cell" "_law_cell" st_law_cell f fd) : FnR P w K mg base CX0 1 f (LSp K ca sp_law_cell) :=
  fr_of F sc_law_cell (F.bindsN fun _ _ _ _ _ _ us hl => match us, hl with | [_, _], _ => rfl) (fun ds Q h => by unfold sp_law_cell at h; (repeat obtain ⟨_, h⟩ := h); subst_vars; rfl) (by decide) (fun cdv A outer s H E hr => dd_law_cell f_len hr) does_law_cell
/-! _law_great -/
abbrev st_law_great : Stmt := top 50
abbrev N_law_great : List Str := []
abbrev P_law_great : List Str := []
theorem nd_law_great : N_law_great.Nodup := by decide +kernel
theorem sc_law_great : FnScope N_law_great P_law_great (defScope st_law_great) := ⟨rfl, rfl, rfl, nd_law_great, rfl, by decide +kernel, by decide +kernel⟩
theorem dd_law_great  {f : Addr} {cdv : Value} {A : Around} {outer : List Env} {s : Shared} {H : Hp} {E : XK} (hr : Room 0 (A.deeper (PyProof.Rows.envOfC "_law_great" (defScope st_law_great) s.heap.objs.size f cdv))) :
    DSs (cxOf CX0 P w K mg base N_law_great "_law_great" (defScope st_law_great) f cdv A outer s H E) ca H (defBody st_law_great) (rd_law_great) :=
  (dss_one (ds_ret (de_new (df_lst (da_cons de_int (da_cons de_int (da_cons de_int (da_cons de_int (da_cons de_int (da_cons de_int (da_cons de_int da_nil)))))))))))
theorem ok_law_great  {f : Addr} {fd : FuncData} (F : FnP K "_law_great" "_law_great" st_law_great f fd) : FnR P w K mg base CX0 1 f (LSp K ca sp_law_great) :=
  fr_of F sc_law_great (F.bindsN fun _ _ _ _ _ _ us hl => match us, hl with | [], _ => rfl) (fun ds Q h => by unfold sp_law_great at h; (repeat obtain ⟨_, h⟩ := h); subst_vars; rfl) (by decide) (fun cdv A outer s H E hr => dd_law_great  hr) does_law_great
/-! _law_whole -/
abbrev st_law_whole : Stmt := top 51
abbrev N_law_whole : List Str := ["_law_thing", "_law_low"]
abbrev P_law_whole : List Str := ["_law_thing", "_law_low"]
theorem nd_law_whole : N_law_whole.Nodup := by decide +kernel
theorem sc_law_whole : FnScope N_law_whole P_law_whole (defScope st_law_whole) := ⟨rfl, rfl, rfl, nd_law_whole, rfl, by decide +kernel, by decide +kernel⟩
theorem dd_law_whole (f_bool : mg "bool" = none) (f_int : mg "int" = none) (f_isinstance : mg "isinstance" = none) (hIs : ∀ c, ClsI K (ca c)) {f : Addr} {cdv : Value} {A : Around} {outer : List Env} {s : Shared} {H : Hp} {E : XK} (hr : Room 0 (A.deeper (PyProof.Rows.envOfC "_law_whole" (defScope st_law_whole) s.heap.objs.size f cdv))) :
    DSs (cxOf CX0 P w K mg base N_law_whole "_law_whole" (defScope st_law_whole) f cdv A outer s H E) ca H (defBody st_law_whole) (rd_law_whole K ca) :=
  (dss_one (ds_ret (de_and (de_callB call_isi (cd_isi hIs) (by rfl) f_isinstance bt_isinstance (dao_cons (do_slot (pv 0)) (dao_cons (do_val (de_bty (by rfl) f_int bt_int)) dao_nil))) (de_and (de_not (de_callB call_isi (cd_isi hIs) (by rfl) f_isinstance bt_isinstance (dao_cons (do_slot (pv 0)) (dao_cons (do_val (de_bty (by rfl) f_bool bt_bool)) dao_nil)))) (de_one (de_cmp op_ge od_ge (do_slot (pv 0)) (do_slot (pv 1)) (nomark _)))))))
theorem ok_law_whole (f_bool : mg "bool" = none) (f_int : mg "int" = none) (f_isinstance : mg "isinstance" = none) (hIs : ∀ c, ClsI K (ca c)) {f : Addr} {fd : FuncData} (F : FnP K "_law_whole" "_law_whole" st_law_whole f fd) : FnR P w K mg base CX0 1 f (LSp K ca sp_law_whole) :=
  fr_of F sc_law_whole (F.bindsN fun _ _ _ _ _ _ us hl => match us, hl with | [_, _], _ => rfl) (fun ds Q h => by unfold sp_law_whole at h; (repeat obtain ⟨_, h⟩ := h); subst_vars; rfl) (by decide) (fun cdv A outer s H E hr => dd_law_whole f_bool f_int f_isinstance hIs hr) does_law_whole
/-! _law_is -/
abbrev st_law_is : Stmt := top 52
abbrev N_law_is : List Str := ["_law_thing", "_law_primes", "_law_exps", "_law_found", "_law_pair", "_law_left", "_law_k", "_law_prime"]
abbrev P_law_is : List Str := ["_law_thing", "_law_primes", "_law_exps"]
theorem nd_law_is : N_law_is.Nodup := by decide +kernel
theorem sc_law_is : FnScope N_law_is P_law_is (defScope st_law_is) := ⟨rfl, rfl, rfl, nd_law_is, rfl, by decide +kernel, by decide +kernel⟩
theorem dd_law_is (D_law_whole : Df P w K mg base ca 1 "_law_whole" sp_law_whole) (c_Number : mg "Number" = some (.ref (ca "Number"))) (n_powers : NoAttr K (ca "Number") "powers") (hI : ClsI K (ca "Number")) (f_enumerate : mg "enumerate" = none) (f_isinstance : mg "isinstance" = none) (f_len : mg "len" = none) (f_list : mg "list" = none) (f_tuple : mg "tuple" = none) (hIs : ∀ c, ClsI K (ca c)) {f : Addr} {cdv : Value} {A : Around} {outer : List Env} {s : Shared} {H : Hp} {E : XK} (hr : Room 1 (A.deeper (PyProof.Rows.envOfC "_law_is" (defScope st_law_is) s.heap.objs.size f cdv))) :
    DSs (cxOf CX0 P w K mg base N_law_is "_law_is" (defScope st_law_is) f cdv A outer s H E) ca H (defBody st_law_is) (rd_law_is K ca) :=
  (dss_cons (ds_if (DW.dt (dw_or (dt_not (dt_tru (do_val (de_callB call_isi (cd_isi hIs) (by rfl) f_isinstance bt_isinstance (dao_cons (do_slot (pv 0)) (dao_cons (do_val (de_cls (by rfl) c_Number)) dao_nil)))))) (dw_or1 (dt_not (dt_tru (do_val (de_callB call_isi (cd_isi hIs) (by rfl) f_isinstance bt_isinstance (dao_cons (do_val (de_fld (de_var (pv 0)) hI.cl n_powers)) (dao_cons (do_val (de_bty (by rfl) f_tuple bt_tuple)) dao_nil))))))))) (dss_one (ds_ret de_bl)) dss_nil) (dss_cons (ds_own (i := 3) (df_rep (do_val (de_new (df_lst (da_cons de_int da_nil)))) (do_val (de_callB call_len cd_len (by rfl) f_len bt_len (dao_cons (do_slot (pv 1)) dao_nil)))) nd_law_is (by rfl) (by first | exact .inl rfl | exact .inr rfl)) (dss_cons (ds_for (passes_of rfl) (by rfl) (di_seq (de_fld (de_var (pv 0)) hI.cl n_powers)) (dg_name (i := 4) nd_law_is (by rfl) (by first | exact .inl rfl | exact .inr rfl)) (dss_cons (ds_if (DW.dt (dw_or (dt_not (dt_tru (do_val (de_callB call_isi (cd_isi hIs) (by rfl) f_isinstance bt_isinstance (dao_cons (do_slot (pv 4)) (dao_cons (do_val (de_bty (by rfl) f_tuple bt_tuple)) dao_nil)))))) (dw_or (dt_cmp (op_neD hr.units) od_ne (do_val (de_callB call_len cd_len (by rfl) f_len bt_len (dao_cons (do_slot (pv 4)) dao_nil))) (do_val de_int) (nomark _)) (dw_or (dt_not (dt_tru (do_val (de_app D_law_whole (hr.mono (by decide)) (by rfl) (da_cons (de_ix (do_slot (pv 4)) (do_val de_int)) (da_cons de_int da_nil)))))) (dw_or1 (dt_not (dt_tru (do_val (de_app D_law_whole (hr.mono (by decide)) (by rfl) (da_cons (de_ix (do_slot (pv 4)) (do_val de_int)) (da_cons de_int da_nil))))))))))) (dss_one (ds_ret de_bl)) dss_nil) (dss_cons (ds_asg (de_if (dt_cmp op_le od_le (do_val (de_ix (do_slot (pv 4)) (do_val de_int))) (do_val (de_op op_pow od_pow (do_val de_int) (do_val de_int))) (nomark _)) (de_ix (do_slot (pv 4)) (do_val de_int)) de_int) (dg_name (i := 5) nd_law_is (by rfl) (by first | exact .inl rfl | exact .inr rfl))) (dss_cons (ds_for (passes_of rfl) (by rfl) (di_enum (by rfl) f_enumerate (da_cons (de_var (pv 1)) da_nil)) (dg_tup (by rfl) (dgs_cons (dg_name (i := 6) nd_law_is (by rfl) (by first | exact .inl rfl | exact .inr rfl)) (dgs_cons (dg_name (i := 7) nd_law_is (by rfl) (by first | exact .inl rfl | exact .inr rfl)) dgs_nil))) (dss_one (ds_while (passes_of rfl) (DW.dt (dw_and (dt_cmp op_gt od_gt (do_slot (pv 5)) (do_val de_int) (nomark _)) (dw_and1 (dt_cmp (op_eqD hr.units) od_eq (do_val (de_op op_mod od_mod (do_slot (pv 5)) (do_slot (pv 7)))) (do_val de_int) (nomark _))))) (dss_one (ds_asg (de_tup (da_cons (de_op op_fdivW od_fdiv (do_slot (pv 5)) (do_slot (pv 7))) (da_cons (de_op or_addD od_add (do_val (de_ix (do_slot (pv 3)) (do_slot (pv 6)))) (do_val (de_ix (do_slot (pv 4)) (do_val de_int)))) da_nil))) (dg_tup (by rfl) (dgs_cons (dg_name (i := 5) nd_law_is (by rfl) (by first | exact .inl rfl | exact .inr rfl)) (dgs_cons (dg_setI (pv 3) (do_slot (pv 6))) dgs_nil)))))))) (dss_one (ds_if (dt_cmp (op_neD hr.units) od_ne (do_slot (pv 5)) (do_val de_int) (nomark _)) (dss_one (ds_ret de_bl)) dss_nil)))))) (dss_one (ds_ret (de_cmp (op_eqD hr.units) od_eq (do_slot (pv 3)) (do_val (de_new (df_callTy call_list_of cf_list (by rfl) f_list bt_list (dao_cons (do_slot (pv 2)) dao_nil)))) (nomark _)))))))
theorem ok_law_is (D_law_whole : Df P w K mg base ca 1 "_law_whole" sp_law_whole) (c_Number : mg "Number" = some (.ref (ca "Number"))) (n_powers : NoAttr K (ca "Number") "powers") (hI : ClsI K (ca "Number")) (f_enumerate : mg "enumerate" = none) (f_isinstance : mg "isinstance" = none) (f_len : mg "len" = none) (f_list : mg "list" = none) (f_tuple : mg "tuple" = none) (hIs : ∀ c, ClsI K (ca c)) {f : Addr} {fd : FuncData} (F : FnP K "_law_is" "_law_is" st_law_is f fd) : FnR P w K mg base CX0 2 f (LSp K ca sp_law_is) :=
  fr_of F sc_law_is (F.bindsN fun _ _ _ _ _ _ us hl => match us, hl with | [_, _, _], _ => rfl) (fun ds Q h => by unfold sp_law_is at h; (repeat obtain ⟨_, h⟩ := h); subst_vars; rfl) (by decide) (fun cdv A outer s H E hr => dd_law_is D_law_whole c_Number n_powers hI f_enumerate f_isinstance f_len f_list f_tuple hIs hr) does_law_is
/-! _law_draw -/
abbrev st_law_draw : Stmt := top 48
abbrev N_law_draw : List Str := ["_law_source_here", "_law_many", "_law_digit", "_law_mixed_here"]
abbrev P_law_draw : List Str := ["_law_source_here", "_law_many"]
theorem nd_law_draw : N_law_draw.Nodup := by decide +kernel
theorem sc_law_draw : FnScope N_law_draw P_law_draw (defScope st_law_draw) := ⟨rfl, rfl, rfl, nd_law_draw, rfl, by decide +kernel, by decide +kernel⟩
theorem draw_fn (f_dm : mg "divmod" = none) {f : Addr} {fd : FuncData} (F : FunD K "_law_draw" "_law_draw" (defArgs st_law_draw) (defBody st_law_draw) (defScope st_law_draw) [] [] f fd) : FnOk P w K mg base CX0 1 f fd P_law_draw spD := by
  refine F.ok sc_law_draw (fun vs H Q E h => ?_) (fun cdv A outer s H vs Q E hr h => ⟨_, pss_cons (ps_asg (pe_op op_add (pe_ix ix_list (pv 0) pe_int (by intro _ _; rfl)) pe_int) (pg_sub (pv 0) pe_int set_list))
    (pss_cons (ps_if (pt_cmpR op_gt (pe_ix ix_list (pv 0) pe_int (by intro _ _; rfl)) pe_int (nomark _))
      (pss_cons (ps_asg (pe_callB call_divmodW (by rfl) f_dm bt_dm (pa_cons (pe_ix ix_list (pv 0) pe_int (by intro _ _; rfl)) (pa_cons (pv 1) pa_nil))) (pg_tup (by rfl) (pgs_cons (pg_sub (pv 0) pe_int set_list) (pgs_cons (pg_name (i := 2) nd_law_draw (by rfl) (by first | exact .inl rfl | exact .inr rfl)) pgs_nil))))
        (pss_one (ps_ret (pv 2)))) pss_nil)
    (pss_cons (ps_asg (pe_op op_mod (pe_ix ix_list (pv 0) pe_int (by intro _ _; rfl)) pe_int) (pg_name (i := 3) nd_law_draw (by rfl) (by first | exact .inl rfl | exact .inr rfl)))
    (pss_cons (ps_asg (pe_op op_add (pe_op op_mul (pv 3) (pe_op op_add (pe_op op_mod (pv 3) pe_int) pe_int)) (pe_op op_mul pe_int (pe_ix ix_list (pv 0) pe_int (by intro _ _; rfl)))) (pg_sub (pv 0) pe_int set_list))
    (pss_one (ps_ret (pe_op op_mod (pe_op op_fdiv (pe_op op_mod (pe_ix ix_list (pv 0) pe_int (by intro _ _; rfl)) pe_int) pe_int) (pv 1))))))), ?_⟩)
  · obtain ⟨p, d, s, c, m, rfl, _⟩ := h
    rfl
  · obtain ⟨p, d, s, c, m, rfl, hp, hm, hml, hQ⟩ := h
    refine ⟨_, rfl, p, _, _, _, rfl, rfl, SqL.of hp, rfl, _, _, rfl, rfl, _, rfl, p, _, _, 2, rfl, rfl, hp, rfl, ?_⟩
    have hp1 : ∀ xs : List V, upd H p (.lst xs) p = some (.lst xs) := fun xs => upd_same
    refine ⟨_, rfl, p, _, _, _, rfl, rfl, SqL.of (hp1 _), rfl, _, _, rfl, rfl, _, rfl, ?_⟩
    have mul1 : ∀ x : Int, CMul (x % 1000000103) (x % 1000000103 % 45007 + 29009) := fun x => .inl ⟨by omega, by omega⟩
    have mul2 : ∀ x : Int, CMul 70019 x := fun x => .inl ⟨by decide, by decide⟩
    by_cases h : (0 : Int) < d
    · have hb : decide ((0 : Int) < d) = true := decide_eq_true h
      rw [hb]
      refine ⟨_, rfl, p, _, _, _, rfl, rfl, SqL.of (hp1 _), rfl, _, rfl, _, _, rfl, ⟨hm, PyProof.noPylong_of_log2 (log2_lt (Nat.lt_of_lt_of_le hml (Nat.pow_le_pow_right (by decide) (by decide))) (by decide))⟩, fun q hq => ?_⟩
      have hpq : p ≠ q := fun z => by rw [← z, upd_same] at hq; cases hq
      refine ⟨q, _, rfl, SqT.of upd_same, rfl, _, _, rfl, _, rfl, p, _, _, 0, rfl, rfl, by rw [upd_ne hpq]; exact hp1 _, rfl, _, _, rfl, rfl, _, rfl, ?_⟩
      refine hQ _ _ _ _ _ (Int.emod_nonneg _ (by omega)) (Int.emod_lt_of_pos _ hm) (fun b u hb hu => ?_) upd_same
      have hbq : b ≠ q := fun z => by rw [← z, upd_ne hb, hu] at hq; cases hq
      rw [upd_ne hb, upd_ne hbq, upd_ne hb]
      exact hu
    · have hb : decide ((0 : Int) < d) = false := decide_eq_false h
      rw [hb]
      refine ⟨_, rfl, p, _, _, _, rfl, rfl, SqL.of (hp1 _), rfl, _, _, rfl, rfl, (by show (0 : Int) < 1000000103; decide), _, rfl, _, rfl, _, _, rfl, rfl, (by show (0 : Int) < 45007; decide), _, _, rfl, rfl, _, _, rfl, rfl, mul1 _, _, rfl, p, _, _, _, rfl, rfl, SqL.of (hp1 _), rfl, _, _, rfl, rfl, mul2 _, _, _, rfl, rfl, _, rfl, p, _, _, 1, rfl, rfl, hp1 _, rfl, ?_⟩
      refine ⟨_, rfl, p, _, _, _, rfl, rfl, SqL.of upd_same, rfl, _, _, rfl, rfl, (by show (0 : Int) < 1000000103; decide), _, _, rfl, rfl, ⟨by decide, by decide⟩, _, rfl, _, _, rfl, rfl, hm, ?_⟩
      refine hQ _ _ _ _ _ (Int.emod_nonneg _ (by omega)) (Int.emod_lt_of_pos _ hm) (fun b u hb hu => ?_) upd_same
      rw [upd_ne hb, upd_ne hb]
      exact hu
theorem ok_law_draw (f_dm : mg "divmod" = none) {f : Addr} {fd : FuncData} (F : FunD K "_law_draw" "_law_draw" (defArgs st_law_draw) (defBody st_law_draw) (defScope st_law_draw) [] [] f fd) : FnR P w K mg base CX0 1 f (LSp K ca sp_law_draw) :=
  draw_lsp (by simpa using (draw_fn (P := P) (w := w) (base := base) f_dm F).raw (F.bindsN fun _ _ _ _ _ _ us hl => match us, hl with | [_, _], _ => rfl) .nil)

/-! _law_mixed -/
abbrev st_law_mixed : Stmt := top 49
abbrev N_law_mixed : List Str := ["_law_source_here", "_law_things", "_law_left", "_law_found", "_law_turn"]
abbrev P_law_mixed : List Str := ["_law_source_here", "_law_things"]
theorem nd_law_mixed : N_law_mixed.Nodup := by decide +kernel
theorem sc_law_mixed : FnScope N_law_mixed P_law_mixed (defScope st_law_mixed) := ⟨rfl, rfl, rfl, nd_law_mixed, rfl, by decide +kernel, by decide +kernel⟩
theorem dd_law_mixed (D_law_draw : Df P w K mg base ca 1 "_law_draw" sp_law_draw) (f_len : mg "len" = none) (f_list : mg "list" = none) (f_range : mg "range" = none) {f : Addr} {cdv : Value} {A : Around} {outer : List Env} {s : Shared} {H : Hp} {E : XK} (hr : Room 1 (A.deeper (PyProof.Rows.envOfC "_law_mixed" (defScope st_law_mixed) s.heap.objs.size f cdv))) :
    DSs (cxOf CX0 P w K mg base N_law_mixed "_law_mixed" (defScope st_law_mixed) f cdv A outer s H E) ca H (defBody st_law_mixed) (rd_law_mixed) :=
  (dss_cons (by first | exact (ds_par2 (i := 2) (j := 3) (by rfl) nd_law_mixed (by rfl) (by rfl) (by decide) (by rfl) (by rfl) (df_callTy call_list_of cf_list (by rfl) f_list bt_list (dao_cons (do_slot (pv 1)) dao_nil)) (df_lst da_nil) (by rfl) (by rfl) (by rfl) (by rfl)) | exact (ds_own2 (df_callTy call_list_of cf_list (by rfl) f_list bt_list (dao_cons (do_slot (pv 1)) dao_nil)) (df_lst da_nil) (pg_pair (i := 2) (j := 3) (by rfl) nd_law_mixed (by rfl) (by first | exact .inl rfl | exact .inr rfl) (by rfl) (by first | exact .inl rfl | exact .inr rfl)))) (dss_cons (ds_for (passes_of rfl) (by rfl) (di_range1 (by rfl) f_range (dao_cons (do_val (de_callB call_len cd_len (by rfl) f_len bt_len (dao_cons (do_slot (pv 1)) dao_nil))) dao_nil)) (dg_name (i := 4) nd_law_mixed (by rfl) (by first | exact .inl rfl | exact .inr rfl)) (dss_one (ds_expr (de_append (pv 3) (da_cons (de_popAt (pv 2) (da_cons (de_app D_law_draw (hr.mono (by decide)) (by rfl) (da_cons (de_var (pv 0)) (da_cons (de_callB call_len cd_len (by rfl) f_len bt_len (dao_cons (do_slot (pv 2)) dao_nil)) da_nil))) da_nil)) da_nil))))) (dss_one (ds_ret (de_var (pv 3))))))
theorem ok_law_mixed (D_law_draw : Df P w K mg base ca 1 "_law_draw" sp_law_draw) (f_len : mg "len" = none) (f_list : mg "list" = none) (f_range : mg "range" = none) {f : Addr} {fd : FuncData} (F : FnP K "_law_mixed" "_law_mixed" st_law_mixed f fd) : FnR P w K mg base CX0 2 f (LSp K ca sp_law_mixed) :=
  fr_of F sc_law_mixed (F.bindsN fun _ _ _ _ _ _ us hl => match us, hl with | [_, _], _ => rfl) (fun ds Q h => by unfold sp_law_mixed at h; (repeat obtain ⟨_, h⟩ := h); subst_vars; rfl) (by decide) (fun cdv A outer s H E hr => dd_law_mixed D_law_draw f_len f_list f_range hr) does_law_mixed
/-! integer_in -/
abbrev st_integer_in : Stmt := top 25
abbrev N_integer_in : List Str := ["word", "sign"]
abbrev P_integer_in : List Str := ["word"]
theorem nd_integer_in : N_integer_in.Nodup := by decide +kernel
theorem sc_integer_in : FnScope N_integer_in P_integer_in (defScope st_integer_in) := ⟨rfl, rfl, rfl, nd_integer_in, rfl, by decide +kernel, by decide +kernel⟩
theorem dd_integer_in (m_DIGITS : ∃ u, mg "DIGITS" = some u ∧ RelV (.str ("0123456789" : Str)) u) (m_LONGEST_INTEGER : ∃ u, mg "LONGEST_INTEGER" = some u ∧ RelV (.int 4000) u) (f_all : mg "all" = none) (f_int : mg "int" = none) (f_len : mg "len" = none) {f : Addr} {cdv : Value} {A : Around} {outer : List Env} {s : Shared} {H : Hp} {E : XK} (hr : Room 0 (A.deeper (PyProof.Rows.envOfC "integer_in" (defScope st_integer_in) s.heap.objs.size f cdv))) :
    DSs (cxOf CX0 P w K mg base N_integer_in "integer_in" (defScope st_integer_in) f cdv A outer s H E) ca H (defBody st_integer_in) (rd_integer_in) :=
  (dss_cons (ds_if (DW.dt (dw_or (dt_not (dt_chain op_le op_le od_le od_le (do_val de_int) (do_val (de_callB call_len cd_len (by rfl) f_len bt_len (dao_cons (do_slot (pv 0)) dao_nil))) (do_val (de_con (by rfl) m_LONGEST_INTEGER (v := .int 4000) (by intro _ _; rfl))))) (dw_or (dt_cmp (op_eqD hr.units) od_eq (do_val (de_ix (do_slot (pv 0)) (do_val de_int))) (do_val de_str) (nomark _)) (dw_or1 (dt_not (dt_tru (do_val (de_callB (cr_all (by rfl)) cd_all (by rfl) f_all bt_all (dao_cons (do_val (de_new (df_lc (own := [("sign", 1)]) (by rfl) nd_integer_in (DI.fix (di_seq (de_var (pv 0)))) (blkOk_by (own := [("sign", 1)]) (N := N_integer_in) (sc := defScope st_integer_in) (by decide +kernel)) (fun _ _ _ _ _ => (dg_name (i := 1) nd_integer_in (by rfl) (by first | exact .inl rfl | exact .inr rfl))) (fun _ _ _ _ _ => dts_nil) (fun _ _ _ _ _ => (de_cmp (or_inD (Room.u65 hr)) od_in (do_slot (pv 1)) (do_val (de_con (by rfl) m_DIGITS (v := .str ("0123456789" : Str)) (by intro _ _; rfl))) (by with_unfolding_all rfl)))))) dao_nil))))))))) (dss_one (ds_ret de_non)) dss_nil) (dss_one (ds_ret (de_callTy (call_int1.or call_int_str) cd_int (by rfl) f_int bt_int (dao_cons (do_slot (pv 0)) dao_nil)))))
theorem ok_integer_in (m_DIGITS : ∃ u, mg "DIGITS" = some u ∧ RelV (.str ("0123456789" : Str)) u) (m_LONGEST_INTEGER : ∃ u, mg "LONGEST_INTEGER" = some u ∧ RelV (.int 4000) u) (f_all : mg "all" = none) (f_int : mg "int" = none) (f_len : mg "len" = none) {f : Addr} {fd : FuncData} (F : FnP K "integer_in" "integer_in" st_integer_in f fd) : FnR P w K mg base CX0 1 f (LSp K ca sp_integer_in) :=
  fr_of F sc_integer_in (F.bindsN fun _ _ _ _ _ _ us hl => match us, hl with | [_], _ => rfl) (fun ds Q h => by unfold sp_integer_in at h; (repeat obtain ⟨_, h⟩ := h); subst_vars; rfl) (by decide) (fun cdv A outer s H E hr => dd_integer_in m_DIGITS m_LONGEST_INTEGER f_all f_int f_len hr) does_integer_in
/-! pair_in -/
abbrev st_pair_in : Stmt := top 26
abbrev N_pair_in : List Str := ["word", "base", "exponents", "piece", "exponent", "others"]
abbrev P_pair_in : List Str := ["word"]
theorem nd_pair_in : N_pair_in.Nodup := by decide +kernel
theorem sc_pair_in : FnScope N_pair_in P_pair_in (defScope st_pair_in) := ⟨rfl, rfl, rfl, nd_pair_in, rfl, by decide +kernel, by decide +kernel⟩
theorem dd_pair_in (D_integer_in : Df P w K mg base ca 1 "integer_in" sp_integer_in) (m_MAX_BASE : ∃ u, mg "MAX_BASE" = some u ∧ RelV (.int 100000000000000000000) u) {f : Addr} {cdv : Value} {A : Around} {outer : List Env} {s : Shared} {H : Hp} {E : XK} (hr : Room 1 (A.deeper (PyProof.Rows.envOfC "pair_in" (defScope st_pair_in) s.heap.objs.size f cdv))) :
    DSs (cxOf CX0 P w K mg base N_pair_in "pair_in" (defScope st_pair_in) f cdv A outer s H E) ca H (defBody st_pair_in) (rd_pair_in) :=
  (dss_cons (ds_asg (de_new (df_lc (own := [("piece", 3)]) (by rfl) nd_pair_in (DI.fix (di_seq (de_new (df_split (do_slot (pv 0)) (do_val de_str))))) (blkOk_by (own := [("piece", 3)]) (N := N_pair_in) (sc := defScope st_pair_in) (by decide +kernel)) (fun _ _ _ _ _ => (dg_name (i := 3) nd_pair_in (by rfl) (by first | exact .inl rfl | exact .inr rfl))) (fun _ _ _ _ _ => dts_nil) (fun _ _ _ _ _ => (de_app D_integer_in (hr.mono (by decide)) (by rfl) (da_cons (de_var (pv 3)) da_nil))))) (dg_star (by rfl) (dgs_cons (dg_name (i := 1) nd_pair_in (by rfl) (by first | exact .inl rfl | exact .inr rfl)) (dgs_cons (dg_name (i := 2) nd_pair_in (by rfl) (by first | exact .inl rfl | exact .inr rfl)) dgs_nil)))) (dss_cons (ds_if (DW.dt (dw_or (dt_cmp op_isN od_is (do_slot (pv 1)) (do_val de_non) (nomark _)) (dw_or1 (dt_not (dt_chain op_le op_le od_le od_le (do_val de_int) (do_slot (pv 1)) (do_val (de_con (by rfl) m_MAX_BASE (v := .int 100000000000000000000) (by intro _ _; rfl)))))))) (dss_one (ds_ret de_non)) dss_nil) (dss_cons (ds_if (dt_cmp (op_eqD hr.units) od_eq (do_slot (pv 2)) (do_val (de_new (df_lst da_nil))) (nomark _)) (dss_one (ds_ret (de_tup (da_cons (de_var (pv 1)) (da_cons de_int da_nil))))) dss_nil) (dss_cons (ds_asg (de_var (pv 2)) (dg_star (by rfl) (dgs_cons (dg_name (i := 4) nd_pair_in (by rfl) (by first | exact .inl rfl | exact .inr rfl)) (dgs_cons (dg_name (i := 5) nd_pair_in (by rfl) (by first | exact .inl rfl | exact .inr rfl)) dgs_nil)))) (dss_one (ds_ret (de_if (DW.dt (dw_and (dt_cmp (op_eqD hr.units) od_eq (do_slot (pv 5)) (do_val (de_new (df_lst da_nil))) (nomark _)) (dw_and (dt_cmp op_notN od_isNot (do_slot (pv 4)) (do_val de_non) (nomark _)) (dw_and1 (dt_cmp op_gt od_gt (do_slot (pv 4)) (do_val de_int) (nomark _)))))) (de_tup (da_cons (de_var (pv 1)) (da_cons (de_var (pv 4)) da_nil))) de_non)))))))
theorem ok_pair_in (D_integer_in : Df P w K mg base ca 1 "integer_in" sp_integer_in) (m_MAX_BASE : ∃ u, mg "MAX_BASE" = some u ∧ RelV (.int 100000000000000000000) u) {f : Addr} {fd : FuncData} (F : FnP K "pair_in" "pair_in" st_pair_in f fd) : FnR P w K mg base CX0 2 f (LSp K ca sp_pair_in) :=
  fr_of F sc_pair_in (F.bindsN fun _ _ _ _ _ _ us hl => match us, hl with | [_], _ => rfl) (fun ds Q h => by unfold sp_pair_in at h; (repeat obtain ⟨_, h⟩ := h); subst_vars; rfl) (by decide) (fun cdv A outer s H E hr => dd_pair_in D_integer_in m_MAX_BASE hr) does_pair_in
/-! is_integer -/
abbrev st_is_integer : Stmt := top 20
abbrev N_is_integer : List Str := ["value", "low", "high"]
abbrev P_is_integer : List Str := ["value", "low", "high"]
theorem nd_is_integer : N_is_integer.Nodup := by decide +kernel
theorem sc_is_integer : FnScope N_is_integer P_is_integer (defScope st_is_integer) := ⟨rfl, rfl, rfl, nd_is_integer, rfl, by decide +kernel, by decide +kernel⟩
theorem dd_is_integer (f_bool : mg "bool" = none) (f_int : mg "int" = none) (f_isinstance : mg "isinstance" = none) (hIs : ∀ c, ClsI K (ca c)) {f : Addr} {cdv : Value} {A : Around} {outer : List Env} {s : Shared} {H : Hp} {E : XK} (hr : Room 0 (A.deeper (PyProof.Rows.envOfC "is_integer" (defScope st_is_integer) s.heap.objs.size f cdv))) :
    DSs (cxOf CX0 P w K mg base N_is_integer "is_integer" (defScope st_is_integer) f cdv A outer s H E) ca H (defBody st_is_integer) (rd_is_integer K ca) :=
  (dss_cons (ds_if (DW.dt (dw_or (dt_not (dt_tru (do_val (de_callB call_isi (cd_isi hIs) (by rfl) f_isinstance bt_isinstance (dao_cons (do_slot (pv 0)) (dao_cons (do_val (de_bty (by rfl) f_int bt_int)) dao_nil)))))) (dw_or (dt_tru (do_val (de_callB call_isi (cd_isi hIs) (by rfl) f_isinstance bt_isinstance (dao_cons (do_slot (pv 0)) (dao_cons (do_val (de_bty (by rfl) f_bool bt_bool)) dao_nil))))) (dw_or1 (dt_cmp op_lt od_lt (do_slot (pv 0)) (do_slot (pv 1)) (nomark _)))))) (dss_one (ds_ret de_bl)) dss_nil) (dss_one (ds_ret (de_or (de_cmp op_isN od_is (do_slot (pv 2)) (do_val de_non) (nomark _)) (de_one (de_cmp op_le od_le (do_slot (pv 0)) (do_slot (pv 2)) (nomark _)))))))
theorem ok_is_integer (f_bool : mg "bool" = none) (f_int : mg "int" = none) (f_isinstance : mg "isinstance" = none) (hIs : ∀ c, ClsI K (ca c)) {f : Addr} {fd : FuncData} (F : FnP K "is_integer" "is_integer" st_is_integer f fd) : FnR P w K mg base CX0 1 f (LSp K ca sp_is_integer) :=
  fr_of F sc_is_integer (F.bindsN fun _ _ _ _ _ _ us hl => match us, hl with | [_, _, _], _ => rfl) (fun ds Q h => by rcases h with ⟨_, _, rfl, _⟩ | ⟨_, _, _, rfl, _⟩ <;> rfl) (by decide) (fun cdv A outer s H E hr => dd_is_integer f_bool f_int f_isinstance hIs hr) does_is_integer
/-! wrong_pair -/
abbrev st_wrong_pair : Stmt := top 24
abbrev N_wrong_pair : List Str := ["powers", "index", "pair"]
abbrev P_wrong_pair : List Str := ["powers"]
theorem nd_wrong_pair : N_wrong_pair.Nodup := by decide +kernel
theorem sc_wrong_pair : FnScope N_wrong_pair P_wrong_pair (defScope st_wrong_pair) := ⟨rfl, rfl, rfl, nd_wrong_pair, rfl, by decide +kernel, by decide +kernel⟩
theorem dd_wrong_pair (D_is_integer : Df P w K mg base ca 1 "is_integer" sp_is_integer) (m_MAX_BASE : ∃ u, mg "MAX_BASE" = some u ∧ RelV (.int 100000000000000000000) u) (f_enumerate : mg "enumerate" = none) (f_isinstance : mg "isinstance" = none) (f_len : mg "len" = none) (f_tuple : mg "tuple" = none) (hIs : ∀ c, ClsI K (ca c)) {f : Addr} {cdv : Value} {A : Around} {outer : List Env} {s : Shared} {H : Hp} {E : XK} (hr : Room 1 (A.deeper (PyProof.Rows.envOfC "wrong_pair" (defScope st_wrong_pair) s.heap.objs.size f cdv))) :
    DSs (cxOf CX0 P w K mg base N_wrong_pair "wrong_pair" (defScope st_wrong_pair) f cdv A outer s H E) ca H (defBody st_wrong_pair) (rd_wrong_pair K ca) :=
  (dss_cons (ds_for (passes_of rfl) (by rfl) (di_enum (by rfl) f_enumerate (da_cons (de_var (pv 0)) da_nil)) (dg_tup (by rfl) (dgs_cons (dg_name (i := 1) nd_wrong_pair (by rfl) (by first | exact .inl rfl | exact .inr rfl)) (dgs_cons (dg_name (i := 2) nd_wrong_pair (by rfl) (by first | exact .inl rfl | exact .inr rfl)) dgs_nil))) (dss_cons (ds_if (DW.dt (dw_or (dt_not (dt_tru (do_val (de_callB call_isi (cd_isi hIs) (by rfl) f_isinstance bt_isinstance (dao_cons (do_slot (pv 2)) (dao_cons (do_val (de_bty (by rfl) f_tuple bt_tuple)) dao_nil)))))) (dw_or1 (dt_cmp (op_neD hr.units) od_ne (do_val (de_callB call_len cd_len (by rfl) f_len bt_len (dao_cons (do_slot (pv 2)) dao_nil))) (do_val de_int) (nomark _))))) (dss_one (ds_ret (de_var (pv 1)))) dss_nil) (dss_one (ds_if (DW.dt (dw_or (dt_not (dt_tru (do_val (de_app D_is_integer (hr.mono (by decide)) (by rfl) (da_cons (de_ix (do_slot (pv 2)) (do_val de_int)) (da_cons de_int (da_cons (de_con (by rfl) m_MAX_BASE (v := .int 100000000000000000000) (by intro _ _; rfl)) da_nil))))))) (dw_or1 (dt_not (dt_tru (do_val (de_app D_is_integer (hr.mono (by decide)) (by rfl) (da_cons (de_ix (do_slot (pv 2)) (do_val de_int)) (da_cons de_int (da_cons de_non da_nil)))))))))) (dss_one (ds_ret (de_var (pv 1)))) dss_nil)))) (dss_one (ds_ret de_non)))
theorem ok_wrong_pair (D_is_integer : Df P w K mg base ca 1 "is_integer" sp_is_integer) (m_MAX_BASE : ∃ u, mg "MAX_BASE" = some u ∧ RelV (.int 100000000000000000000) u) (f_enumerate : mg "enumerate" = none) (f_isinstance : mg "isinstance" = none) (f_len : mg "len" = none) (f_tuple : mg "tuple" = none) (hIs : ∀ c, ClsI K (ca c)) {f : Addr} {fd : FuncData} (F : FnP K "wrong_pair" "wrong_pair" st_wrong_pair f fd) : FnR P w K mg base CX0 2 f (LSp K ca sp_wrong_pair) :=
  fr_of F sc_wrong_pair (F.bindsN fun _ _ _ _ _ _ us hl => match us, hl with | [_], _ => rfl) (fun ds Q h => by unfold sp_wrong_pair at h; (repeat obtain ⟨_, h⟩ := h); subst_vars; rfl) (by decide) (fun cdv A outer s H E hr => dd_wrong_pair D_is_integer m_MAX_BASE f_enumerate f_isinstance f_len f_tuple hIs hr) does_wrong_pair
/-! Number.__init__ -/
abbrev st_Number_init : Stmt := (clsBody (top 30)).getD 0 (.Pass ⟨0, 0, 0, 0⟩)
abbrev N_Number_init : List Str := ["self", "powers", "index"]
abbrev P_Number_init : List Str := ["self", "powers"]
theorem nd_Number_init : N_Number_init.Nodup := by decide +kernel
theorem sc_Number_init : FnScope N_Number_init P_Number_init (defScope st_Number_init) := ⟨rfl, rfl, rfl, nd_Number_init, rfl, by decide +kernel, by decide +kernel⟩
theorem dd_Number_init (D_wrong_pair : Df P w K mg base ca 2 "wrong_pair" sp_wrong_pair) {f : Addr} {cdv : Value} {A : Around} {outer : List Env} {s : Shared} {H : Hp} {E : XK} (hr : Room 2 (A.deeper (PyProof.Rows.envOfC "Number.__init__" (defScope st_Number_init) s.heap.objs.size f cdv))) :
    DSx (cxOf CX0 P w K mg base N_Number_init "Number.__init__" (defScope st_Number_init) f cdv A outer s H E) ca H (defBody st_Number_init) rd_Number_init (uFld K 1 "powers") :=
  (dsx_cons (ds_asg (de_app D_wrong_pair (hr.mono (by decide)) (by rfl) (da_cons (de_var (pv 1)) da_nil)) (dg_name (i := 2) nd_Number_init (by rfl) (by first | exact .inl rfl | exact .inr rfl))) (dsx_cons (ds_if (dt_cmp op_notN od_isNot (do_slot (pv 2)) (do_val de_non) (nomark _)) (dss_one ds_never) dss_nil) (dsx_nil (pss_one (ps_fld (pv 0) (pv 1) rfl)))))
theorem ok_Number_init (D_wrong_pair : Df P w K mg base ca 2 "wrong_pair" sp_wrong_pair) (hc : Cls K (ca "Number")) (hn : NoAttr K (ca "Number") "powers") {f : Addr} {fd : FuncData} (F : FnP K "__init__" "Number.__init__" st_Number_init f fd) : FnR P w K mg base CX0 3 f (LIn K ca (ca "Number") (inStar 0 in_Number)) :=
  fr_initStar (ps := []) (p0 := "self") (pv := "powers") hc hn F sc_Number_init (fun _ _ _ _ _ _ us rest hl => match us, rest, hl with | [_], [], _ => rfl | [_], _ :: _, _ => rfl) (fun ds Q h => by unfold in_Number at h; (repeat obtain ⟨_, h⟩ := h); subst_vars; rfl) (by decide) (fun cdv A outer s H E hr => dd_Number_init D_wrong_pair hr) does_init
/-! Number.read -/
abbrev st_Number_read : Stmt := (clsBody (top 30)).getD 2 (.Pass ⟨0, 0, 0, 0⟩)
abbrev N_Number_read : List Str := ["cls", "text", "pairs", "word"]
abbrev P_Number_read : List Str := ["cls", "text"]
theorem nd_Number_read : N_Number_read.Nodup := by decide +kernel
theorem sc_Number_read : FnScope N_Number_read P_Number_read (defScope st_Number_read) := ⟨rfl, rfl, rfl, nd_Number_read, rfl, by decide +kernel, by decide +kernel⟩
theorem dd_Number_read (D_pair_in : Df P w K mg base ca 2 "pair_in" sp_pair_in) (f_isinstance : mg "isinstance" = none) (f_str : mg "str" = none) (hIs : ∀ c, ClsI K (ca c)) (k_Number : Cal P w K mg base ca 4 (ca "Number") sp_Number) {f : Addr} {cdv : Value} {A : Around} {outer : List Env} {s : Shared} {H : Hp} {E : XK} (hr : Room 4 (A.deeper (PyProof.Rows.envOfC "Number.read" (defScope st_Number_read) s.heap.objs.size f cdv))) :
    DSs (cxOf CX0 P w K mg base N_Number_read "Number.read" (defScope st_Number_read) f cdv A outer s H E) ca H (defBody st_Number_read) (rd_Number_read K ca) :=
  (dss_cons (ds_if (dt_not (dt_tru (do_val (de_callB call_isi (cd_isi hIs) (by rfl) f_isinstance bt_isinstance (dao_cons (do_slot (pv 1)) (dao_cons (do_val (de_bty (by rfl) f_str bt_str)) dao_nil)))))) (dss_one ds_never) dss_nil) (dss_cons (ds_if (dt_cmp (op_eqD hr.units) od_eq (do_slot (pv 1)) (do_val de_str) (nomark _)) (dss_one (ds_ret (de_appV0 k_Number (hr.mono (by decide)) (pv 0)))) dss_nil) (dss_cons (ds_setLc (i := 2) (own := [("word", 3)]) (by rfl) nd_Number_read (by rfl) (by rfl) (sw_true (by rfl) (by rfl) (by rfl) (by decide +kernel)) (DI.fix (di_seq (de_new (df_split (do_slot (pv 1)) (do_val de_str))))) (blkOk_by (own := [("word", 3)]) (N := N_Number_read) (sc := defScope st_Number_read) (by decide +kernel)) (fun _ _ _ _ _ => (dg_name (i := 3) nd_Number_read (by rfl) (by first | exact .inl rfl | exact .inr rfl))) (fun _ _ _ _ _ => dts_nil) (fun _ _ _ _ _ => (de_app D_pair_in (hr.mono (by decide)) (by rfl) (da_cons (de_var (pv 3)) da_nil)))) (dss_cons (ds_if (dt_cmp (or_inD (Room.u65 hr)) od_in (do_val de_non) (do_slot (pv 2)) (by with_unfolding_all rfl)) (dss_one ds_never) dss_nil) (dss_one (ds_ret (de_appVS k_Number (hr.mono (by decide)) (pv 0) (do_slot (pv 2)))))))))
theorem ok_Number_read (D_pair_in : Df P w K mg base ca 2 "pair_in" sp_pair_in) (f_isinstance : mg "isinstance" = none) (f_str : mg "str" = none) (hIs : ∀ c, ClsI K (ca c)) (k_Number : Cal P w K mg base ca 4 (ca "Number") sp_Number) {f : Addr} {fd : FuncData} (F : FnP K "read" "Number.read" st_Number_read f fd) : FnR P w K mg base CX0 5 f (LSp K ca sp_Number_read) :=
  fr_of F sc_Number_read (F.bindsN fun _ _ _ _ _ _ us hl => match us, hl with | [_, _], _ => rfl) (fun ds Q h => by unfold sp_Number_read at h; (repeat obtain ⟨_, h⟩ := h); subst_vars; rfl) (by decide) (fun cdv A outer s H E hr => dd_Number_read D_pair_in f_isinstance f_str hIs k_Number hr) does_Number_read
/-! _law_number -/
abbrev st_law_num17 : Stmt := top 54
abbrev N_law_num17 : List Str := ["_law_powers", "_law_words", "_law_base", "_law_many"]
abbrev P_law_num17 : List Str := ["_law_powers"]
theorem nd_law_num17 : N_law_num17.Nodup := by decide +kernel
theorem sc_law_num17 : FnScope N_law_num17 P_law_num17 (defScope st_law_num17) := ⟨rfl, rfl, rfl, nd_law_num17, rfl, by decide +kernel, by decide +kernel⟩
theorem dd_law_num17 (c_Number : mg "Number" = some (.ref (ca "Number"))) (q_read : CMt P w K mg base ca 5 "Number" "read" sp_Number_read) (f_str : mg "str" = none) {f : Addr} {cdv : Value} {A : Around} {outer : List Env} {s : Shared} {H : Hp} {E : XK} (hr : Room 5 (A.deeper (PyProof.Rows.envOfC "_law_number" (defScope st_law_num17) s.heap.objs.size f cdv))) :
    DSs (cxOf CX0 P w K mg base N_law_num17 "_law_number" (defScope st_law_num17) f cdv A outer s H E) ca H (defBody st_law_num17) (rd_law_num17) :=
  (dss_cons (ds_setLc (i := 1) (own := [("_law_base", 2), ("_law_many", 3)]) (by rfl) nd_law_num17 (by rfl) (by rfl) (sw_true (by rfl) (by rfl) (by rfl) (by decide +kernel)) (DI.fix (di_seq (de_var (pv 0)))) (blkOk_by (own := [("_law_base", 2), ("_law_many", 3)]) (N := N_law_num17) (sc := defScope st_law_num17) (by decide +kernel)) (fun _ _ _ _ _ => (dg_tup (by rfl) (dgs_cons (dg_name (i := 2) nd_law_num17 (by rfl) (by first | exact .inl rfl | exact .inr rfl)) (dgs_cons (dg_name (i := 3) nd_law_num17 (by rfl) (by first | exact .inl rfl | exact .inr rfl)) dgs_nil)))) (fun _ _ _ _ _ => dts_nil) (fun _ _ _ _ _ => (de_op or_addD od_add (do_val (de_callTy (call_str_int.or SkE.call_str_str) cd_str (by rfl) f_str bt_str (dao_cons (do_slot (pv 2)) dao_nil))) (do_val (de_if (dt_cmp op_gt od_gt (do_slot (pv 3)) (do_val de_int) (nomark _)) (de_op or_addD od_add (do_val de_str) (do_val (de_callTy (call_str_int.or SkE.call_str_str) cd_str (by rfl) f_str bt_str (dao_cons (do_slot (pv 3)) dao_nil)))) de_str))))) (dss_one (ds_ret (de_cmeth q_read (hr.mono (by decide)) (by rfl) c_Number (da_cons (de_join (do_val de_str) (do_slot (pv 1))) da_nil)))))
theorem ok_law_num17 (c_Number : mg "Number" = some (.ref (ca "Number"))) (q_read : CMt P w K mg base ca 5 "Number" "read" sp_Number_read) (f_str : mg "str" = none) {f : Addr} {fd : FuncData} (F : FnP K "_law_number" "_law_number" st_law_num17 f fd) : FnR P w K mg base CX0 6 f (LSp K ca sp_law_num17) :=
  fr_of F sc_law_num17 (F.bindsN fun _ _ _ _ _ _ us hl => match us, hl with | [_], _ => rfl) (fun ds Q h => by unfold sp_law_num17 at h; (repeat obtain ⟨_, h⟩ := h); subst_vars; rfl) (by decide) (fun cdv A outer s H E hr => dd_law_num17 c_Number q_read f_str hr) does_law_num17
/-! check_number -/
abbrev st_check_number : Stmt := top 31
abbrev N_check_number : List Str := ["number"]
abbrev P_check_number : List Str := ["number"]
theorem nd_check_number : N_check_number.Nodup := by decide +kernel
theorem sc_check_number : FnScope N_check_number P_check_number (defScope st_check_number) := ⟨rfl, rfl, rfl, nd_check_number, rfl, by decide +kernel, by decide +kernel⟩
theorem dd_check_number (c_Number : mg "Number" = some (.ref (ca "Number"))) (f_isinstance : mg "isinstance" = none) (hIs : ∀ c, ClsI K (ca c)) {f : Addr} {cdv : Value} {A : Around} {outer : List Env} {s : Shared} {H : Hp} {E : XK} (hr : Room 0 (A.deeper (PyProof.Rows.envOfC "check_number" (defScope st_check_number) s.heap.objs.size f cdv))) :
    DSs (cxOf CX0 P w K mg base N_check_number "check_number" (defScope st_check_number) f cdv A outer s H E) ca H (defBody st_check_number) (rd_check_number K ca) :=
  (dss_one (ds_if (dt_not (dt_tru (do_val (de_callB call_isi (cd_isi hIs) (by rfl) f_isinstance bt_isinstance (dao_cons (do_slot (pv 0)) (dao_cons (do_val (de_cls (by rfl) c_Number)) dao_nil)))))) (dss_one ds_never) dss_nil))
theorem ok_check_number (c_Number : mg "Number" = some (.ref (ca "Number"))) (f_isinstance : mg "isinstance" = none) (hIs : ∀ c, ClsI K (ca c)) {f : Addr} {fd : FuncData} (F : FnP K "check_number" "check_number" st_check_number f fd) : FnR P w K mg base CX0 1 f (LSp K ca sp_check_number) :=
  fr_of F sc_check_number (F.bindsN fun _ _ _ _ _ _ us hl => match us, hl with | [_], _ => rfl) (fun ds Q h => by unfold sp_check_number at h; (repeat obtain ⟨_, h⟩ := h); subst_vars; rfl) (by decide) (fun cdv A outer s H E hr => dd_check_number c_Number f_isinstance hIs hr) does_check_number
/-! common_divisor -/
abbrev st_common_divisor : Stmt := top 14
abbrev N_common_divisor : List Str := ["one", "other"]
abbrev P_common_divisor : List Str := ["one", "other"]
theorem nd_common_divisor : N_common_divisor.Nodup := by decide +kernel
theorem sc_common_divisor : FnScope N_common_divisor P_common_divisor (defScope st_common_divisor) := ⟨rfl, rfl, rfl, nd_common_divisor, rfl, by decide +kernel, by decide +kernel⟩
theorem dd_common_divisor  {f : Addr} {cdv : Value} {A : Around} {outer : List Env} {s : Shared} {H : Hp} {E : XK} (hr : Room 0 (A.deeper (PyProof.Rows.envOfC "common_divisor" (defScope st_common_divisor) s.heap.objs.size f cdv))) :
    DSs (cxOf CX0 P w K mg base N_common_divisor "common_divisor" (defScope st_common_divisor) f cdv A outer s H E) ca H (defBody st_common_divisor) (rd_common_divisor) :=
  (dss_cons (ds_while (passes_of rfl) (dt_cmp (op_neD hr.units) od_ne (do_slot (pv 1)) (do_val de_int) (nomark _)) (dss_one (by first | exact (ds_parP (i := 0) (j := 1) (by rfl) nd_common_divisor (by rfl) (by rfl) (by decide) (by rfl) (by rfl) (da_cons (de_var (pv 1)) (da_cons (de_op op_mod od_mod (do_slot (pv 0)) (do_slot (pv 1))) da_nil)) (by rfl) (by rfl)) | exact (ds_asg (de_tup (da_cons (de_var (pv 1)) (da_cons (de_op op_mod od_mod (do_slot (pv 0)) (do_slot (pv 1))) da_nil))) (dg_tup (by rfl) (dgs_cons (dg_name (i := 0) nd_common_divisor (by rfl) (by first | exact .inl rfl | exact .inr rfl)) (dgs_cons (dg_name (i := 1) nd_common_divisor (by rfl) (by first | exact .inl rfl | exact .inr rfl)) dgs_nil))))))) (dss_one (ds_ret (de_var (pv 0)))))
theorem ok_common_divisor  {f : Addr} {fd : FuncData} (F : FnP K "common_divisor" "common_divisor" st_common_divisor f fd) : FnR P w K mg base CX0 1 f (LSp K ca sp_common_divisor) :=
  fr_of F sc_common_divisor (F.bindsN fun _ _ _ _ _ _ us hl => match us, hl with | [_, _], _ => rfl) (fun ds Q h => by unfold sp_common_divisor at h; (repeat obtain ⟨_, h⟩ := h); subst_vars; rfl) (by decide) (fun cdv A outer s H E hr => dd_common_divisor  hr) does_common_divisor
/-! refined -/
abbrev st_refined : Stmt := top 15
abbrev N_refined : List Str := ["integers", "waiting", "found", "item", "index", "other", "common", "piece"]
abbrev P_refined : List Str := ["integers"]
theorem nd_refined : N_refined.Nodup := by decide +kernel
theorem sc_refined : FnScope N_refined P_refined (defScope st_refined) := ⟨rfl, rfl, rfl, nd_refined, rfl, by decide +kernel, by decide +kernel⟩
theorem dd_refined (D_common_divisor : Df P w K mg base ca 1 "common_divisor" sp_common_divisor) (f_enumerate : mg "enumerate" = none) (f_sorted : mg "sorted" = none) (f_tuple : mg "tuple" = none) {f : Addr} {cdv : Value} {A : Around} {outer : List Env} {s : Shared} {H : Hp} {E : XK} (hr : Room 1 (A.deeper (PyProof.Rows.envOfC "refined" (defScope st_refined) s.heap.objs.size f cdv))) :
    DSs (cxOf CX0 P w K mg base N_refined "refined" (defScope st_refined) f cdv A outer s H E) ca H (defBody st_refined) (rd_refined) :=
  (dss_cons (by first | exact (ds_parP (i := 1) (j := 2) (by rfl) nd_refined (by rfl) (by rfl) (by decide) (by rfl) (by rfl) (da_cons (de_new (df_lc (own := [("item", 3)]) (by rfl) nd_refined (DI.fix (di_seq (de_var (pv 0)))) (blkOk_by (own := [("item", 3)]) (N := N_refined) (sc := defScope st_refined) (by decide +kernel)) (fun _ _ _ _ _ => (dg_name (i := 3) nd_refined (by rfl) (by first | exact .inl rfl | exact .inr rfl))) (fun _ _ _ _ _ => (dts_one (dt_cmp op_gt od_gt (do_slot (pv 3)) (do_val de_int) (nomark _)))) (fun _ _ _ _ _ => (de_var (pv 3))))) (da_cons (de_new (df_lst da_nil)) da_nil)) (by rfl) (by rfl)) | exact (ds_asg (de_tup (da_cons (de_new (df_lc (own := [("item", 3)]) (by rfl) nd_refined (DI.fix (di_seq (de_var (pv 0)))) (blkOk_by (own := [("item", 3)]) (N := N_refined) (sc := defScope st_refined) (by decide +kernel)) (fun _ _ _ _ _ => (dg_name (i := 3) nd_refined (by rfl) (by first | exact .inl rfl | exact .inr rfl))) (fun _ _ _ _ _ => (dts_one (dt_cmp op_gt od_gt (do_slot (pv 3)) (do_val de_int) (nomark _)))) (fun _ _ _ _ _ => (de_var (pv 3))))) (da_cons (de_new (df_lst da_nil)) da_nil))) (dg_tup (by rfl) (dgs_cons (dg_name (i := 1) nd_refined (by rfl) (by first | exact .inl rfl | exact .inr rfl)) (dgs_cons (dg_name (i := 2) nd_refined (by rfl) (by first | exact .inl rfl | exact .inr rfl)) dgs_nil))))) (dss_cons (ds_while (passes_of rfl) (dt_cmp (op_neD hr.units) od_ne (do_slot (pv 1)) (do_val (de_new (df_lst da_nil))) (nomark _)) (dss_cons (ds_asg (de_var (pv 1)) (dg_star (by rfl) (dgs_cons (dg_name (i := 3) nd_refined (by rfl) (by first | exact .inl rfl | exact .inr rfl)) (dgs_cons (dg_name (i := 1) nd_refined (by rfl) (by first | exact .inl rfl | exact .inr rfl)) dgs_nil)))) (dss_one (ds_forE (passes_of rfl) (by rfl) (di_enum (by rfl) f_enumerate (da_cons (de_var (pv 2)) da_nil)) (dg_tup (by rfl) (dgs_cons (dg_name (i := 4) nd_refined (by rfl) (by first | exact .inl rfl | exact .inr rfl)) (dgs_cons (dg_name (i := 5) nd_refined (by rfl) (by first | exact .inl rfl | exact .inr rfl)) dgs_nil))) (dss_cons (ds_asg (de_app D_common_divisor (hr.mono (by decide)) (by rfl) (da_cons (de_var (pv 3)) (da_cons (de_var (pv 5)) da_nil))) (dg_name (i := 6) nd_refined (by rfl) (by first | exact .inl rfl | exact .inr rfl))) (dss_one (ds_if (dt_cmp op_gt od_gt (do_slot (pv 6)) (do_val de_int) (nomark _)) (dss_cons (ds_asg (de_new (df_cat (do_slot (pv 1)) (do_val (de_new (df_lc (own := [("piece", 7)]) (by rfl) nd_refined (DI.fix (di_seq (de_tup (da_cons (de_var (pv 6)) (da_cons (de_op op_fdivW od_fdiv (do_slot (pv 3)) (do_slot (pv 6))) (da_cons (de_op op_fdivW od_fdiv (do_slot (pv 5)) (do_slot (pv 6))) da_nil)))))) (blkOk_by (own := [("piece", 7)]) (N := N_refined) (sc := defScope st_refined) (by decide +kernel)) (fun _ _ _ _ _ => (dg_name (i := 7) nd_refined (by rfl) (by first | exact .inl rfl | exact .inr rfl))) (fun _ _ _ _ _ => (dts_one (dt_cmp op_gt od_gt (do_slot (pv 7)) (do_val de_int) (nomark _)))) (fun _ _ _ _ _ => (de_var (pv 7)))))))) (dg_name (i := 1) nd_refined (by rfl) (by first | exact .inl rfl | exact .inr rfl))) (dss_cons (ds_asg (de_new (df_cat (do_val (de_new (df_sl (do_slot (pv 2)) dpo_none (dpo_some (do_slot (pv 4)))))) (do_val (de_new (df_sl (do_slot (pv 2)) (dpo_some (do_val (de_op or_addD od_add (do_slot (pv 4)) (do_val de_int)))) dpo_none))))) (dg_name (i := 2) nd_refined (by rfl) (by first | exact .inl rfl | exact .inr rfl))) (dss_one ds_break))) dss_nil))) (dss_one (ds_asg (de_new (df_cat (do_slot (pv 2)) (do_val (de_new (df_lst (da_cons (de_var (pv 3)) da_nil)))))) (dg_name (i := 2) nd_refined (by rfl) (by first | exact .inl rfl | exact .inr rfl)))))))) (dss_one (ds_ret (de_callTy call_tuple_of cd_tuple (by rfl) f_tuple bt_tuple (dao_cons (do_val (de_new (df_callB cr_sortedI cf_sorted (by rfl) f_sorted bt_sorted (dao_cons (do_slot (pv 2)) dao_nil)))) dao_nil))))))
theorem ok_refined (D_common_divisor : Df P w K mg base ca 1 "common_divisor" sp_common_divisor) (f_enumerate : mg "enumerate" = none) (f_sorted : mg "sorted" = none) (f_tuple : mg "tuple" = none) {f : Addr} {fd : FuncData} (F : FnP K "refined" "refined" st_refined f fd) : FnR P w K mg base CX0 2 f (LSp K ca sp_refined) :=
  fr_of F sc_refined (F.bindsN fun _ _ _ _ _ _ us hl => match us, hl with | [_], _ => rfl) (fun ds Q h => by unfold sp_refined at h; (repeat obtain ⟨_, h⟩ := h); subst_vars; rfl) (by decide) (fun cdv A outer s H E hr => dd_refined D_common_divisor f_enumerate f_sorted f_tuple hr) does_refined
/-! common_base -/
abbrev st_common_base : Stmt := top 27
abbrev N_common_base : List Str := ["writings", "powers", "base", "exponent"]
abbrev P_common_base : List Str := ["writings"]
theorem nd_common_base : N_common_base.Nodup := by decide +kernel
theorem sc_common_base : FnScope N_common_base P_common_base (defScope st_common_base) := ⟨rfl, rfl, rfl, nd_common_base, rfl, by decide +kernel, by decide +kernel⟩
theorem dd_common_base (D_refined : Df P w K mg base ca 2 "refined" sp_refined) {f : Addr} {cdv : Value} {A : Around} {outer : List Env} {s : Shared} {H : Hp} {E : XK} (hr : Room 2 (A.deeper (PyProof.Rows.envOfC "common_base" (defScope st_common_base) s.heap.objs.size f cdv))) :
    DSs (cxOf CX0 P w K mg base N_common_base "common_base" (defScope st_common_base) f cdv A outer s H E) ca H (defBody st_common_base) (rd_common_base) :=
  (dss_one (ds_ret (de_app D_refined (hr.mono (by decide)) (by rfl) (da_cons (de_new (df_lc2 (own := [("powers", 1), ("base", 2), ("exponent", 3)]) (vs1 := [2, 3]) (by rfl) nd_common_base (DI.fix (di_seq (de_var (pv 0)))) (blkOk_by (own := [("powers", 1), ("base", 2), ("exponent", 3)]) (N := N_common_base) (sc := defScope st_common_base) (by decide +kernel)) (fun _ _ _ _ _ => (dg_name (i := 1) nd_common_base (by rfl) (by first | exact .inl rfl | exact .inr rfl))) (fun _ _ _ _ _ => dts_nil) (fun _ _ _ _ _ => (DI.fix (di_seq (de_var (pv 1))))) (fun _ _ _ _ _ => (dg_tup (by rfl) (dgs_cons (dg_name (i := 2) nd_common_base (by rfl) (by first | exact .inl rfl | exact .inr rfl)) (dgs_cons (dg_name (i := 3) nd_common_base (by rfl) (by first | exact .inl rfl | exact .inr rfl)) dgs_nil)))) (fun _ _ _ _ _ => dts_nil) (fun _ _ _ _ _ => (de_var (pv 2))))) da_nil))))
theorem ok_common_base (D_refined : Df P w K mg base ca 2 "refined" sp_refined) {f : Addr} {fd : FuncData} (F : FnP K "common_base" "common_base" st_common_base f fd) : FnR P w K mg base CX0 3 f (LSp K ca sp_common_baseN) :=
  fr_star (ps := []) (pv := "writings") F sc_common_base (fun _ _ _ _ _ _ us rest hl => match us, rest, hl with | [], [], _ => rfl | [], _ :: _, _ => rfl) (fun ds Q h => by unfold sp_cbn at h; (repeat obtain ⟨_, h⟩ := h); subst_vars; rfl) (by decide) (fun cdv A outer s H E hr => dd_common_base D_refined hr) does_common_baseN
/-! times_in -/
abbrev st_times_in : Stmt := top 16
abbrev N_times_in : List Str := ["value", "item", "found"]
abbrev P_times_in : List Str := ["value", "item"]
theorem nd_times_in : N_times_in.Nodup := by decide +kernel
theorem sc_times_in : FnScope N_times_in P_times_in (defScope st_times_in) := ⟨rfl, rfl, rfl, nd_times_in, rfl, by decide +kernel, by decide +kernel⟩
theorem dd_times_in  {f : Addr} {cdv : Value} {A : Around} {outer : List Env} {s : Shared} {H : Hp} {E : XK} (hr : Room 0 (A.deeper (PyProof.Rows.envOfC "times_in" (defScope st_times_in) s.heap.objs.size f cdv))) :
    DSs (cxOf CX0 P w K mg base N_times_in "times_in" (defScope st_times_in) f cdv A outer s H E) ca H (defBody st_times_in) (rd_times_in) :=
  (dss_cons (ds_asg de_int (dg_name (i := 2) nd_times_in (by rfl) (by first | exact .inl rfl | exact .inr rfl))) (dss_cons (ds_while (passes_of rfl) (dt_cmp (op_eqD hr.units) od_eq (do_val (de_op op_mod od_mod (do_slot (pv 0)) (do_slot (pv 1)))) (do_val de_int) (nomark _)) (dss_one (by first | exact (ds_parP (i := 0) (j := 2) (by rfl) nd_times_in (by rfl) (by rfl) (by decide) (by rfl) (by rfl) (da_cons (de_op op_fdivW od_fdiv (do_slot (pv 0)) (do_slot (pv 1))) (da_cons (de_op or_addD od_add (do_slot (pv 2)) (do_val de_int)) da_nil)) (by rfl) (by rfl)) | exact (ds_asg (de_tup (da_cons (de_op op_fdivW od_fdiv (do_slot (pv 0)) (do_slot (pv 1))) (da_cons (de_op or_addD od_add (do_slot (pv 2)) (do_val de_int)) da_nil))) (dg_tup (by rfl) (dgs_cons (dg_name (i := 0) nd_times_in (by rfl) (by first | exact .inl rfl | exact .inr rfl)) (dgs_cons (dg_name (i := 2) nd_times_in (by rfl) (by first | exact .inl rfl | exact .inr rfl)) dgs_nil))))))) (dss_one (ds_ret (de_var (pv 2))))))
theorem ok_times_in  {f : Addr} {fd : FuncData} (F : FnP K "times_in" "times_in" st_times_in f fd) : FnR P w K mg base CX0 1 f (LSp K ca sp_times_in) :=
  fr_of F sc_times_in (F.bindsN fun _ _ _ _ _ _ us hl => match us, hl with | [_, _], _ => rfl) (fun ds Q h => by unfold sp_times_in at h; (repeat obtain ⟨_, h⟩ := h); subst_vars; rfl) (by decide) (fun cdv A outer s H E hr => dd_times_in  hr) does_times_in
/-! exponent_over -/
abbrev st_exponent_over : Stmt := top 17
abbrev N_exponent_over : List Str := ["powers", "item", "base", "exponent"]
abbrev P_exponent_over : List Str := ["powers", "item"]
theorem nd_exponent_over : N_exponent_over.Nodup := by decide +kernel
theorem sc_exponent_over : FnScope N_exponent_over P_exponent_over (defScope st_exponent_over) := ⟨rfl, rfl, rfl, nd_exponent_over, rfl, by decide +kernel, by decide +kernel⟩
theorem dd_exponent_over (D_times_in : Df P w K mg base ca 1 "times_in" sp_times_in) (f_sum : mg "sum" = none) {f : Addr} {cdv : Value} {A : Around} {outer : List Env} {s : Shared} {H : Hp} {E : XK} (hr : Room 1 (A.deeper (PyProof.Rows.envOfC "exponent_over" (defScope st_exponent_over) s.heap.objs.size f cdv))) :
    DSs (cxOf CX0 P w K mg base N_exponent_over "exponent_over" (defScope st_exponent_over) f cdv A outer s H E) ca H (defBody st_exponent_over) (rd_exponent_over) :=
  (dss_one (ds_ret (de_callB (cr_sum (by rfl)) cd_sum (by rfl) f_sum bt_sum (dao_cons (do_val (de_new (df_lc (own := [("base", 2), ("exponent", 3)]) (by rfl) nd_exponent_over (DI.fix (di_seq (de_var (pv 0)))) (blkOk_by (own := [("base", 2), ("exponent", 3)]) (N := N_exponent_over) (sc := defScope st_exponent_over) (by decide +kernel)) (fun _ _ _ _ _ => (dg_tup (by rfl) (dgs_cons (dg_name (i := 2) nd_exponent_over (by rfl) (by first | exact .inl rfl | exact .inr rfl)) (dgs_cons (dg_name (i := 3) nd_exponent_over (by rfl) (by first | exact .inl rfl | exact .inr rfl)) dgs_nil)))) (fun _ _ _ _ _ => dts_nil) (fun _ _ _ _ _ => (de_op op_mulD od_mul (do_slot (pv 3)) (do_val (de_app D_times_in (hr.mono (by decide)) (by rfl) (da_cons (de_var (pv 2)) (da_cons (de_var (pv 1)) da_nil))))))))) dao_nil))))
theorem ok_exponent_over (D_times_in : Df P w K mg base ca 1 "times_in" sp_times_in) (f_sum : mg "sum" = none) {f : Addr} {fd : FuncData} (F : FnP K "exponent_over" "exponent_over" st_exponent_over f fd) : FnR P w K mg base CX0 2 f (LSp K ca sp_exponent_over) :=
  fr_of F sc_exponent_over (F.bindsN fun _ _ _ _ _ _ us hl => match us, hl with | [_, _], _ => rfl) (fun ds Q h => by unfold sp_exponent_over at h; (repeat obtain ⟨_, h⟩ := h); subst_vars; rfl) (by decide) (fun cdv A outer s H E hr => dd_exponent_over D_times_in f_sum hr) does_exponent_over
/-! exponents_over -/
abbrev st_exponents_over : Stmt := top 18
abbrev N_exponents_over : List Str := ["powers", "base", "item"]
abbrev P_exponents_over : List Str := ["powers", "base"]
theorem nd_exponents_over : N_exponents_over.Nodup := by decide +kernel
theorem sc_exponents_over : FnScope N_exponents_over P_exponents_over (defScope st_exponents_over) := ⟨rfl, rfl, rfl, nd_exponents_over, rfl, by decide +kernel, by decide +kernel⟩
theorem dd_exponents_over (D_exponent_over : Df P w K mg base ca 2 "exponent_over" sp_exponent_over) (f_tuple : mg "tuple" = none) {f : Addr} {cdv : Value} {A : Around} {outer : List Env} {s : Shared} {H : Hp} {E : XK} (hr : Room 2 (A.deeper (PyProof.Rows.envOfC "exponents_over" (defScope st_exponents_over) s.heap.objs.size f cdv))) :
    DSs (cxOf CX0 P w K mg base N_exponents_over "exponents_over" (defScope st_exponents_over) f cdv A outer s H E) ca H (defBody st_exponents_over) (rd_exponents_over) :=
  (dss_one (ds_ret (de_callTy call_tuple_of cd_tuple (by rfl) f_tuple bt_tuple (dao_cons (do_val (de_new (df_lc (own := [("item", 2)]) (by rfl) nd_exponents_over (DI.fix (di_seq (de_var (pv 1)))) (blkOk_by (own := [("item", 2)]) (N := N_exponents_over) (sc := defScope st_exponents_over) (by decide +kernel)) (fun _ _ _ _ _ => (dg_name (i := 2) nd_exponents_over (by rfl) (by first | exact .inl rfl | exact .inr rfl))) (fun _ _ _ _ _ => dts_nil) (fun _ _ _ _ _ => (de_app D_exponent_over (hr.mono (by decide)) (by rfl) (da_cons (de_var (pv 0)) (da_cons (de_var (pv 2)) da_nil))))))) dao_nil))))
theorem ok_exponents_over (D_exponent_over : Df P w K mg base ca 2 "exponent_over" sp_exponent_over) (f_tuple : mg "tuple" = none) {f : Addr} {fd : FuncData} (F : FnP K "exponents_over" "exponents_over" st_exponents_over f fd) : FnR P w K mg base CX0 3 f (LSp K ca sp_exponents_over) :=
  fr_of F sc_exponents_over (F.bindsN fun _ _ _ _ _ _ us hl => match us, hl with | [_, _], _ => rfl) (fun ds Q h => by unfold sp_exponents_over at h; (repeat obtain ⟨_, h⟩ := h); subst_vars; rfl) (by decide) (fun cdv A outer s H E hr => dd_exponents_over D_exponent_over f_tuple hr) does_exponents_over
/-! compared -/
abbrev st_compared : Stmt := top 28
abbrev N_compared : List Str := ["one", "other", "base"]
abbrev P_compared : List Str := ["one", "other"]
theorem nd_compared : N_compared.Nodup := by decide +kernel
theorem sc_compared : FnScope N_compared P_compared (defScope st_compared) := ⟨rfl, rfl, rfl, nd_compared, rfl, by decide +kernel, by decide +kernel⟩
theorem dd_compared (D_common_base : Df P w K mg base ca 3 "common_base" sp_common_base) (D_exponents_over : Df P w K mg base ca 3 "exponents_over" sp_exponents_over) (n_powers : NoAttr K (ca "Number") "powers") (hI : ClsI K (ca "Number")) (f_list : mg "list" = none) (f_zip : mg "zip" = none) {f : Addr} {cdv : Value} {A : Around} {outer : List Env} {s : Shared} {H : Hp} {E : XK} (hr : Room 3 (A.deeper (PyProof.Rows.envOfC "compared" (defScope st_compared) s.heap.objs.size f cdv))) :
    DSs (cxOf CX0 P w K mg base N_compared "compared" (defScope st_compared) f cdv A outer s H E) ca H (defBody st_compared) (rd_compared) :=
  (dss_cons (ds_asg (de_app D_common_base (hr.mono (by decide)) (by rfl) (da_cons (de_fld (de_var (pv 0)) hI.cl n_powers) (da_cons (de_fld (de_var (pv 1)) hI.cl n_powers) da_nil))) (dg_name (i := 2) nd_compared (by rfl) (by first | exact .inl rfl | exact .inr rfl))) (dss_one (ds_ret (de_tup (da_cons (de_var (pv 2)) (da_cons (de_new (df_listzip (by rfl) (by rfl) f_zip (by rfl) f_list (da_cons (de_app D_exponents_over (hr.mono (by decide)) (by rfl) (da_cons (de_fld (de_var (pv 0)) hI.cl n_powers) (da_cons (de_var (pv 2)) da_nil))) (da_cons (de_app D_exponents_over (hr.mono (by decide)) (by rfl) (da_cons (de_fld (de_var (pv 1)) hI.cl n_powers) (da_cons (de_var (pv 2)) da_nil))) da_nil)))) da_nil))))))
theorem ok_compared (D_common_base : Df P w K mg base ca 3 "common_base" sp_common_base) (D_exponents_over : Df P w K mg base ca 3 "exponents_over" sp_exponents_over) (n_powers : NoAttr K (ca "Number") "powers") (hI : ClsI K (ca "Number")) (f_list : mg "list" = none) (f_zip : mg "zip" = none) {f : Addr} {fd : FuncData} (F : FnP K "compared" "compared" st_compared f fd) : FnR P w K mg base CX0 4 f (LSp K ca sp_compared) :=
  fr_of F sc_compared (F.bindsN fun _ _ _ _ _ _ us hl => match us, hl with | [_, _], _ => rfl) (fun ds Q h => by unfold sp_compared at h; (repeat obtain ⟨_, h⟩ := h); subst_vars; rfl) (by decide) (fun cdv A outer s H E hr => dd_compared D_common_base D_exponents_over n_powers hI f_list f_zip hr) does_compared
/-! divides -/
abbrev st_divides : Stmt := top 33
abbrev N_divides : List Str := ["number", "other", "base", "pairs", "mine", "yours"]
abbrev P_divides : List Str := ["number", "other"]
theorem nd_divides : N_divides.Nodup := by decide +kernel
theorem sc_divides : FnScope N_divides P_divides (defScope st_divides) := ⟨rfl, rfl, rfl, nd_divides, rfl, by decide +kernel, by decide +kernel⟩
theorem dd_divides (D_check_number : Df P w K mg base ca 1 "check_number" sp_check_number) (D_compared : Df P w K mg base ca 4 "compared" sp_compared) {f : Addr} {cdv : Value} {A : Around} {outer : List Env} {s : Shared} {H : Hp} {E : XK} (hr : Room 4 (A.deeper (PyProof.Rows.envOfC "divides" (defScope st_divides) s.heap.objs.size f cdv))) :
    DSs (cxOf CX0 P w K mg base N_divides "divides" (defScope st_divides) f cdv A outer s H E) ca H (defBody st_divides) (rd_divides) :=
  (dss_cons (ds_expr (de_app D_check_number (hr.mono (by decide)) (by rfl) (da_cons (de_var (pv 0)) da_nil))) (dss_cons (ds_expr (de_app D_check_number (hr.mono (by decide)) (by rfl) (da_cons (de_var (pv 1)) da_nil))) (dss_cons (ds_asg (de_app D_compared (hr.mono (by decide)) (by rfl) (da_cons (de_var (pv 0)) (da_cons (de_var (pv 1)) da_nil))) (dg_tup (by rfl) (dgs_cons (dg_name (i := 2) nd_divides (by rfl) (by first | exact .inl rfl | exact .inr rfl)) (dgs_cons (dg_name (i := 3) nd_divides (by rfl) (by first | exact .inl rfl | exact .inr rfl)) dgs_nil)))) (dss_one (ds_ret (de_cmp (op_eqD hr.units) od_eq (do_val (de_new (df_lc (own := [("mine", 4), ("yours", 5)]) (by rfl) nd_divides (DI.fix (di_seq (de_var (pv 3)))) (blkOk_by (own := [("mine", 4), ("yours", 5)]) (N := N_divides) (sc := defScope st_divides) (by decide +kernel)) (fun _ _ _ _ _ => (dg_tup (by rfl) (dgs_cons (dg_name (i := 4) nd_divides (by rfl) (by first | exact .inl rfl | exact .inr rfl)) (dgs_cons (dg_name (i := 5) nd_divides (by rfl) (by first | exact .inl rfl | exact .inr rfl)) dgs_nil)))) (fun _ _ _ _ _ => (dts_one (dt_cmp op_gt od_gt (do_slot (pv 4)) (do_slot (pv 5)) (nomark _)))) (fun _ _ _ _ _ => (de_var (pv 4)))))) (do_val (de_new (df_lst da_nil))) (nomark _)))))))
theorem ok_divides (D_check_number : Df P w K mg base ca 1 "check_number" sp_check_number) (D_compared : Df P w K mg base ca 4 "compared" sp_compared) {f : Addr} {fd : FuncData} (F : FnP K "divides" "divides" st_divides f fd) : FnR P w K mg base CX0 5 f (LSp K ca sp_divides) :=
  fr_of F sc_divides (F.bindsN fun _ _ _ _ _ _ us hl => match us, hl with | [_, _], _ => rfl) (fun ds Q h => by obtain ⟨_, _, _, rfl, _⟩ := h; rfl) (by decide) (fun cdv A outer s H E hr => dd_divides D_check_number D_compared hr) does_divides
/-! check_numbers -/
abbrev st_check_numbers : Stmt := top 32
abbrev N_check_numbers : List Str := ["numbers", "least", "index", "number"]
abbrev P_check_numbers : List Str := ["numbers", "least"]
theorem nd_check_numbers : N_check_numbers.Nodup := by decide +kernel
theorem sc_check_numbers : FnScope N_check_numbers P_check_numbers (defScope st_check_numbers) := ⟨rfl, rfl, rfl, nd_check_numbers, rfl, by decide +kernel, by decide +kernel⟩
theorem dd_check_numbers (c_Number : mg "Number" = some (.ref (ca "Number"))) (f_enumerate : mg "enumerate" = none) (f_isinstance : mg "isinstance" = none) (f_len : mg "len" = none) (hIs : ∀ c, ClsI K (ca c)) {f : Addr} {cdv : Value} {A : Around} {outer : List Env} {s : Shared} {H : Hp} {E : XK} (hr : Room 0 (A.deeper (PyProof.Rows.envOfC "check_numbers" (defScope st_check_numbers) s.heap.objs.size f cdv))) :
    DSs (cxOf CX0 P w K mg base N_check_numbers "check_numbers" (defScope st_check_numbers) f cdv A outer s H E) ca H (defBody st_check_numbers) (rd_check_numbers K ca) :=
  (dss_cons (ds_if (dt_cmp op_lt od_lt (do_val (de_callB call_len cd_len (by rfl) f_len bt_len (dao_cons (do_slot (pv 0)) dao_nil))) (do_slot (pv 1)) (nomark _)) (dss_one ds_never) dss_nil) (dss_one (ds_for (passes_of rfl) (by rfl) (di_enum (by rfl) f_enumerate (da_cons (de_var (pv 0)) da_nil)) (dg_tup (by rfl) (dgs_cons (dg_name (i := 2) nd_check_numbers (by rfl) (by first | exact .inl rfl | exact .inr rfl)) (dgs_cons (dg_name (i := 3) nd_check_numbers (by rfl) (by first | exact .inl rfl | exact .inr rfl)) dgs_nil))) (dss_one (ds_if (dt_not (dt_tru (do_val (de_callB call_isi (cd_isi hIs) (by rfl) f_isinstance bt_isinstance (dao_cons (do_slot (pv 3)) (dao_cons (do_val (de_cls (by rfl) c_Number)) dao_nil)))))) (dss_one ds_never) dss_nil)))))
theorem ok_check_numbers (c_Number : mg "Number" = some (.ref (ca "Number"))) (f_enumerate : mg "enumerate" = none) (f_isinstance : mg "isinstance" = none) (f_len : mg "len" = none) (hIs : ∀ c, ClsI K (ca c)) {f : Addr} {fd : FuncData} (F : FnP K "check_numbers" "check_numbers" st_check_numbers f fd) : FnR P w K mg base CX0 1 f (LSp K ca sp_check_numbers) :=
  fr_of F sc_check_numbers (F.bindsN fun _ _ _ _ _ _ us hl => match us, hl with | [_, _], _ => rfl) (fun ds Q h => by unfold sp_check_numbers at h; (repeat obtain ⟨_, h⟩ := h); subst_vars; rfl) (by decide) (fun cdv A outer s H E hr => dd_check_numbers c_Number f_enumerate f_isinstance f_len hIs hr) does_check_numbers
/-! number_with -/
abbrev st_number_with : Stmt := top 29
abbrev N_number_with : List Str := ["base", "exponents", "pairs", "item", "exponent"]
abbrev P_number_with : List Str := ["base", "exponents"]
theorem nd_number_with : N_number_with.Nodup := by decide +kernel
theorem sc_number_with : FnScope N_number_with P_number_with (defScope st_number_with) := ⟨rfl, rfl, rfl, nd_number_with, rfl, by decide +kernel, by decide +kernel⟩
theorem dd_number_with (D_Number : Df P w K mg base ca 4 "Number" sp_Number) (f_zip : mg "zip" = none) {f : Addr} {cdv : Value} {A : Around} {outer : List Env} {s : Shared} {H : Hp} {E : XK} (hr : Room 4 (A.deeper (PyProof.Rows.envOfC "number_with" (defScope st_number_with) s.heap.objs.size f cdv))) :
    DSs (cxOf CX0 P w K mg base N_number_with "number_with" (defScope st_number_with) f cdv A outer s H E) ca H (defBody st_number_with) (rd_number_with) :=
  (dss_cons (ds_setLc (i := 2) (own := [("item", 3), ("exponent", 4)]) (by rfl) nd_number_with (by rfl) (by rfl) (sw_true (by rfl) (by rfl) (by rfl) (by decide +kernel)) (DI.fix (di_zip (by rfl) f_zip (da_cons (de_var (pv 0)) (da_cons (de_var (pv 1)) da_nil)))) (blkOk_by (own := [("item", 3), ("exponent", 4)]) (N := N_number_with) (sc := defScope st_number_with) (by decide +kernel)) (fun _ _ _ _ _ => (dg_tup (by rfl) (dgs_cons (dg_name (i := 3) nd_number_with (by rfl) (by first | exact .inl rfl | exact .inr rfl)) (dgs_cons (dg_name (i := 4) nd_number_with (by rfl) (by first | exact .inl rfl | exact .inr rfl)) dgs_nil)))) (fun _ _ _ _ _ => (dts_one (dt_cmp op_gt od_gt (do_slot (pv 4)) (do_val de_int) (nomark _)))) (fun _ _ _ _ _ => (de_tup (da_cons (de_var (pv 3)) (da_cons (de_var (pv 4)) da_nil))))) (dss_one (ds_ret (de_appS D_Number (hr.mono (by decide)) (by rfl) (do_slot (pv 2))))))
theorem ok_number_with (D_Number : Df P w K mg base ca 4 "Number" sp_Number) (f_zip : mg "zip" = none) {f : Addr} {fd : FuncData} (F : FnP K "number_with" "number_with" st_number_with f fd) : FnR P w K mg base CX0 5 f (LSp K ca sp_number_with) :=
  fr_of F sc_number_with (F.bindsN fun _ _ _ _ _ _ us hl => match us, hl with | [_, _], _ => rfl) (fun ds Q h => by unfold sp_number_with at h; (repeat obtain ⟨_, h⟩ := h); subst_vars; rfl) (by decide) (fun cdv A outer s H E hr => dd_number_with D_Number f_zip hr) does_number_with
/-! Number.__or__ -/
abbrev st_Number_or : Stmt := (clsBody (top 30)).getD 10 (.Pass ⟨0, 0, 0, 0⟩)
abbrev N_Number_or : List Str := ["self", "other", "base", "pairs", "mine", "yours"]
abbrev P_Number_or : List Str := ["self", "other"]
theorem nd_Number_or : N_Number_or.Nodup := by decide +kernel
theorem sc_Number_or : FnScope N_Number_or P_Number_or (defScope st_Number_or) := ⟨rfl, rfl, rfl, nd_Number_or, rfl, by decide +kernel, by decide +kernel⟩
theorem dd_Number_or (D_compared : Df P w K mg base ca 4 "compared" sp_compared) (D_number_with : Df P w K mg base ca 5 "number_with" sp_number_with) {f : Addr} {cdv : Value} {A : Around} {outer : List Env} {s : Shared} {H : Hp} {E : XK} (hr : Room 5 (A.deeper (PyProof.Rows.envOfC "Number.__or__" (defScope st_Number_or) s.heap.objs.size f cdv))) :
    DSs (cxOf CX0 P w K mg base N_Number_or "Number.__or__" (defScope st_Number_or) f cdv A outer s H E) ca H (defBody st_Number_or) (rd_Number_or) :=
  (dss_cons (ds_asg (de_app D_compared (hr.mono (by decide)) (by rfl) (da_cons (de_var (pv 0)) (da_cons (de_var (pv 1)) da_nil))) (dg_tup (by rfl) (dgs_cons (dg_name (i := 2) nd_Number_or (by rfl) (by first | exact .inl rfl | exact .inr rfl)) (dgs_cons (dg_name (i := 3) nd_Number_or (by rfl) (by first | exact .inl rfl | exact .inr rfl)) dgs_nil)))) (dss_one (ds_ret (de_app D_number_with (hr.mono (by decide)) (by rfl) (da_cons (de_var (pv 2)) (da_cons (de_new (df_lc (own := [("mine", 4), ("yours", 5)]) (by rfl) nd_Number_or (DI.fix (di_seq (de_var (pv 3)))) (blkOk_by (own := [("mine", 4), ("yours", 5)]) (N := N_Number_or) (sc := defScope st_Number_or) (by decide +kernel)) (fun _ _ _ _ _ => (dg_tup (by rfl) (dgs_cons (dg_name (i := 4) nd_Number_or (by rfl) (by first | exact .inl rfl | exact .inr rfl)) (dgs_cons (dg_name (i := 5) nd_Number_or (by rfl) (by first | exact .inl rfl | exact .inr rfl)) dgs_nil)))) (fun _ _ _ _ _ => dts_nil) (fun _ _ _ _ _ => (de_if (dt_cmp op_lt od_lt (do_slot (pv 4)) (do_slot (pv 5)) (nomark _)) (de_var (pv 5)) (de_var (pv 4)))))) da_nil))))))
theorem ok_Number_or (D_compared : Df P w K mg base ca 4 "compared" sp_compared) (D_number_with : Df P w K mg base ca 5 "number_with" sp_number_with) {f : Addr} {fd : FuncData} (F : FnP K "__or__" "Number.__or__" st_Number_or f fd) : FnR P w K mg base CX0 6 f (LSp K ca sp_or) :=
  fr_of F sc_Number_or (F.bindsN fun _ _ _ _ _ _ us hl => match us, hl with | [_, _], _ => rfl) (fun ds Q h => by obtain ⟨_, _, _, rfl, _⟩ := h; rfl) (by decide) (fun cdv A outer s H E hr => dd_Number_or D_compared D_number_with hr) does_Number_or
/-! meet -/
abbrev st_meet : Stmt := top 35
abbrev N_meet : List Str := ["numbers", "found", "number"]
abbrev P_meet : List Str := ["numbers"]
theorem nd_meet : N_meet.Nodup := by decide +kernel
theorem sc_meet : FnScope N_meet P_meet (defScope st_meet) := ⟨rfl, rfl, rfl, nd_meet, rfl, by decide +kernel, by decide +kernel⟩
theorem dd_meet (D_Number : Df P w K mg base ca 4 "Number" sp_Number) (D_check_numbers : Df P w K mg base ca 1 "check_numbers" sp_check_numbers) (o_or : OpB P w K mg base ca 6 "Number" .BitOr sp_or) {f : Addr} {cdv : Value} {A : Around} {outer : List Env} {s : Shared} {H : Hp} {E : XK} (hr : Room 6 (A.deeper (PyProof.Rows.envOfC "meet" (defScope st_meet) s.heap.objs.size f cdv))) :
    DSs (cxOf CX0 P w K mg base N_meet "meet" (defScope st_meet) f cdv A outer s H E) ca H (defBody st_meet) (rd_meet) :=
  (dss_cons (ds_expr (de_app D_check_numbers (hr.mono (by decide)) (by rfl) (da_cons (de_var (pv 0)) (da_cons de_int da_nil)))) (dss_cons (ds_asg (de_app0 D_Number (hr.mono (by decide)) (by rfl)) (dg_name (i := 1) nd_meet (by rfl) (by first | exact .inl rfl | exact .inr rfl))) (dss_cons (ds_for (passes_of rfl) (by rfl) (di_seq (de_var (pv 0))) (dg_name (i := 2) nd_meet (by rfl) (by first | exact .inl rfl | exact .inr rfl)) (dss_one (ds_asg (de_ownB o_or (hr.mono (by decide)) (do_slot (pv 1)) (do_slot (pv 2))) (dg_name (i := 1) nd_meet (by rfl) (by first | exact .inl rfl | exact .inr rfl))))) (dss_one (ds_ret (de_var (pv 1)))))))
theorem ok_meet (D_Number : Df P w K mg base ca 4 "Number" sp_Number) (D_check_numbers : Df P w K mg base ca 1 "check_numbers" sp_check_numbers) (o_or : OpB P w K mg base ca 6 "Number" .BitOr sp_or) {f : Addr} {fd : FuncData} (F : FnP K "meet" "meet" st_meet f fd) : FnR P w K mg base CX0 7 f (LSp K ca sp_meet) :=
  fr_star (ps := []) (pv := "numbers") F sc_meet (fun _ _ _ _ _ _ us rest hl => match us, rest, hl with | [], [], _ => rfl | [], _ :: _, _ => rfl) (fun ds Q h => by unfold sp_meetB at h; (repeat obtain ⟨_, h⟩ := h); subst_vars; rfl) (by decide) (fun cdv A outer s H E hr => dd_meet D_Number D_check_numbers o_or hr) does_meet
/-! parted -/
abbrev st_parted : Stmt := top 38
abbrev N_parted : List Str := ["number", "other", "base", "pairs", "inner", "mine", "yours", "outer"]
abbrev P_parted : List Str := ["number", "other"]
theorem nd_parted : N_parted.Nodup := by decide +kernel
theorem sc_parted : FnScope N_parted P_parted (defScope st_parted) := ⟨rfl, rfl, rfl, nd_parted, rfl, by decide +kernel, by decide +kernel⟩
theorem dd_parted (D_check_number : Df P w K mg base ca 1 "check_number" sp_check_number) (D_compared : Df P w K mg base ca 4 "compared" sp_compared) (D_number_with : Df P w K mg base ca 5 "number_with" sp_number_with) {f : Addr} {cdv : Value} {A : Around} {outer : List Env} {s : Shared} {H : Hp} {E : XK} (hr : Room 5 (A.deeper (PyProof.Rows.envOfC "parted" (defScope st_parted) s.heap.objs.size f cdv))) :
    DSs (cxOf CX0 P w K mg base N_parted "parted" (defScope st_parted) f cdv A outer s H E) ca H (defBody st_parted) (rd_parted) :=
  (dss_cons (ds_expr (de_app D_check_number (hr.mono (by decide)) (by rfl) (da_cons (de_var (pv 0)) da_nil))) (dss_cons (ds_expr (de_app D_check_number (hr.mono (by decide)) (by rfl) (da_cons (de_var (pv 1)) da_nil))) (dss_cons (ds_asg (de_app D_compared (hr.mono (by decide)) (by rfl) (da_cons (de_var (pv 0)) (da_cons (de_var (pv 1)) da_nil))) (dg_tup (by rfl) (dgs_cons (dg_name (i := 2) nd_parted (by rfl) (by first | exact .inl rfl | exact .inr rfl)) (dgs_cons (dg_name (i := 3) nd_parted (by rfl) (by first | exact .inl rfl | exact .inr rfl)) dgs_nil)))) (dss_cons (ds_asg (de_app D_number_with (hr.mono (by decide)) (by rfl) (da_cons (de_var (pv 2)) (da_cons (de_new (df_lc (own := [("mine", 5), ("yours", 6)]) (by rfl) nd_parted (DI.fix (di_seq (de_var (pv 3)))) (blkOk_by (own := [("mine", 5), ("yours", 6)]) (N := N_parted) (sc := defScope st_parted) (by decide +kernel)) (fun _ _ _ _ _ => (dg_tup (by rfl) (dgs_cons (dg_name (i := 5) nd_parted (by rfl) (by first | exact .inl rfl | exact .inr rfl)) (dgs_cons (dg_name (i := 6) nd_parted (by rfl) (by first | exact .inl rfl | exact .inr rfl)) dgs_nil)))) (fun _ _ _ _ _ => dts_nil) (fun _ _ _ _ _ => (de_if (dt_cmp op_gt od_gt (do_slot (pv 6)) (do_val de_int) (nomark _)) (de_var (pv 5)) de_int)))) da_nil))) (dg_name (i := 4) nd_parted (by rfl) (by first | exact .inl rfl | exact .inr rfl))) (dss_cons (ds_asg (de_app D_number_with (hr.mono (by decide)) (by rfl) (da_cons (de_var (pv 2)) (da_cons (de_new (df_lc (own := [("mine", 5), ("yours", 6)]) (by rfl) nd_parted (DI.fix (di_seq (de_var (pv 3)))) (blkOk_by (own := [("mine", 5), ("yours", 6)]) (N := N_parted) (sc := defScope st_parted) (by decide +kernel)) (fun _ _ _ _ _ => (dg_tup (by rfl) (dgs_cons (dg_name (i := 5) nd_parted (by rfl) (by first | exact .inl rfl | exact .inr rfl)) (dgs_cons (dg_name (i := 6) nd_parted (by rfl) (by first | exact .inl rfl | exact .inr rfl)) dgs_nil)))) (fun _ _ _ _ _ => dts_nil) (fun _ _ _ _ _ => (de_if (dt_cmp (op_eqD hr.units) od_eq (do_slot (pv 6)) (do_val de_int) (nomark _)) (de_var (pv 5)) de_int)))) da_nil))) (dg_name (i := 7) nd_parted (by rfl) (by first | exact .inl rfl | exact .inr rfl))) (dss_one (ds_ret (de_tup (da_cons (de_var (pv 4)) (da_cons (de_var (pv 7)) da_nil))))))))))
theorem ok_parted (D_check_number : Df P w K mg base ca 1 "check_number" sp_check_number) (D_compared : Df P w K mg base ca 4 "compared" sp_compared) (D_number_with : Df P w K mg base ca 5 "number_with" sp_number_with) {f : Addr} {fd : FuncData} (F : FnP K "parted" "parted" st_parted f fd) : FnR P w K mg base CX0 6 f (LSp K ca sp_parted) :=
  fr_of F sc_parted (F.bindsN fun _ _ _ _ _ _ us hl => match us, hl with | [_, _], _ => rfl) (fun ds Q h => by unfold sp_parted at h; (repeat obtain ⟨_, h⟩ := h); subst_vars; rfl) (by decide) (fun cdv A outer s H E hr => dd_parted D_check_number D_compared D_number_with hr) does_parted
/-! Number.__and__ -/
abbrev st_Number_and : Stmt := (clsBody (top 30)).getD 9 (.Pass ⟨0, 0, 0, 0⟩)
abbrev N_Number_and : List Str := ["self", "other", "base", "pairs", "mine", "yours"]
abbrev P_Number_and : List Str := ["self", "other"]
theorem nd_Number_and : N_Number_and.Nodup := by decide +kernel
theorem sc_Number_and : FnScope N_Number_and P_Number_and (defScope st_Number_and) := ⟨rfl, rfl, rfl, nd_Number_and, rfl, by decide +kernel, by decide +kernel⟩
theorem dd_Number_and (D_compared : Df P w K mg base ca 4 "compared" sp_compared) (D_number_with : Df P w K mg base ca 5 "number_with" sp_number_with) {f : Addr} {cdv : Value} {A : Around} {outer : List Env} {s : Shared} {H : Hp} {E : XK} (hr : Room 5 (A.deeper (PyProof.Rows.envOfC "Number.__and__" (defScope st_Number_and) s.heap.objs.size f cdv))) :
    DSs (cxOf CX0 P w K mg base N_Number_and "Number.__and__" (defScope st_Number_and) f cdv A outer s H E) ca H (defBody st_Number_and) (rd_Number_and) :=
  (dss_cons (ds_asg (de_app D_compared (hr.mono (by decide)) (by rfl) (da_cons (de_var (pv 0)) (da_cons (de_var (pv 1)) da_nil))) (dg_tup (by rfl) (dgs_cons (dg_name (i := 2) nd_Number_and (by rfl) (by first | exact .inl rfl | exact .inr rfl)) (dgs_cons (dg_name (i := 3) nd_Number_and (by rfl) (by first | exact .inl rfl | exact .inr rfl)) dgs_nil)))) (dss_one (ds_ret (de_app D_number_with (hr.mono (by decide)) (by rfl) (da_cons (de_var (pv 2)) (da_cons (de_new (df_lc (own := [("mine", 4), ("yours", 5)]) (by rfl) nd_Number_and (DI.fix (di_seq (de_var (pv 3)))) (blkOk_by (own := [("mine", 4), ("yours", 5)]) (N := N_Number_and) (sc := defScope st_Number_and) (by decide +kernel)) (fun _ _ _ _ _ => (dg_tup (by rfl) (dgs_cons (dg_name (i := 4) nd_Number_and (by rfl) (by first | exact .inl rfl | exact .inr rfl)) (dgs_cons (dg_name (i := 5) nd_Number_and (by rfl) (by first | exact .inl rfl | exact .inr rfl)) dgs_nil)))) (fun _ _ _ _ _ => dts_nil) (fun _ _ _ _ _ => (de_if (dt_cmp op_lt od_lt (do_slot (pv 4)) (do_slot (pv 5)) (nomark _)) (de_var (pv 4)) (de_var (pv 5)))))) da_nil))))))
theorem ok_Number_and (D_compared : Df P w K mg base ca 4 "compared" sp_compared) (D_number_with : Df P w K mg base ca 5 "number_with" sp_number_with) {f : Addr} {fd : FuncData} (F : FnP K "__and__" "Number.__and__" st_Number_and f fd) : FnR P w K mg base CX0 6 f (LSp K ca sp_and) :=
  fr_of F sc_Number_and (F.bindsN fun _ _ _ _ _ _ us hl => match us, hl with | [_, _], _ => rfl) (fun ds Q h => by obtain ⟨_, _, _, rfl, _⟩ := h; rfl) (by decide) (fun cdv A outer s H E hr => dd_Number_and D_compared D_number_with hr) does_Number_and
/-! share -/
abbrev st_share : Stmt := top 34
abbrev N_share : List Str := ["numbers", "found", "others", "number"]
abbrev P_share : List Str := ["numbers"]
theorem nd_share : N_share.Nodup := by decide +kernel
theorem sc_share : FnScope N_share P_share (defScope st_share) := ⟨rfl, rfl, rfl, nd_share, rfl, by decide +kernel, by decide +kernel⟩
theorem dd_share (D_check_numbers : Df P w K mg base ca 1 "check_numbers" sp_check_numbers) (o_and : OpB P w K mg base ca 6 "Number" .BitAnd sp_and) {f : Addr} {cdv : Value} {A : Around} {outer : List Env} {s : Shared} {H : Hp} {E : XK} (hr : Room 6 (A.deeper (PyProof.Rows.envOfC "share" (defScope st_share) s.heap.objs.size f cdv))) :
    DSs (cxOf CX0 P w K mg base N_share "share" (defScope st_share) f cdv A outer s H E) ca H (defBody st_share) (rd_share) :=
  (dss_cons (ds_expr (de_app D_check_numbers (hr.mono (by decide)) (by rfl) (da_cons (de_var (pv 0)) (da_cons de_int da_nil)))) (dss_cons (ds_asg (de_var (pv 0)) (dg_star (by rfl) (dgs_cons (dg_name (i := 1) nd_share (by rfl) (by first | exact .inl rfl | exact .inr rfl)) (dgs_cons (dg_name (i := 2) nd_share (by rfl) (by first | exact .inl rfl | exact .inr rfl)) dgs_nil)))) (dss_cons (ds_for (passes_of rfl) (by rfl) (di_seq (de_var (pv 2))) (dg_name (i := 3) nd_share (by rfl) (by first | exact .inl rfl | exact .inr rfl)) (dss_one (ds_asg (de_ownB o_and (hr.mono (by decide)) (do_slot (pv 1)) (do_slot (pv 3))) (dg_name (i := 1) nd_share (by rfl) (by first | exact .inl rfl | exact .inr rfl))))) (dss_one (ds_ret (de_var (pv 1)))))))
theorem ok_share (D_check_numbers : Df P w K mg base ca 1 "check_numbers" sp_check_numbers) (o_and : OpB P w K mg base ca 6 "Number" .BitAnd sp_and) {f : Addr} {fd : FuncData} (F : FnP K "share" "share" st_share f fd) : FnR P w K mg base CX0 7 f (LSp K ca sp_share) :=
  fr_star (ps := []) (pv := "numbers") F sc_share (fun _ _ _ _ _ _ us rest hl => match us, rest, hl with | [], [], _ => rfl | [], _ :: _, _ => rfl) (fun ds Q h => by unfold sp_shareB at h; (repeat obtain ⟨_, h⟩ := h); subst_vars; rfl) (by decide) (fun cdv A outer s H E hr => dd_share D_check_numbers o_and hr) does_share
/-! Number.__eq__ -/
abbrev st_Number_eq : Stmt := (clsBody (top 30)).getD 3 (.Pass ⟨0, 0, 0, 0⟩)
abbrev N_Number_eq : List Str := ["self", "other", "base", "pairs", "mine", "yours"]
abbrev P_Number_eq : List Str := ["self", "other"]
theorem nd_Number_eq : N_Number_eq.Nodup := by decide +kernel
theorem sc_Number_eq : FnScope N_Number_eq P_Number_eq (defScope st_Number_eq) := ⟨rfl, rfl, rfl, nd_Number_eq, rfl, by decide +kernel, by decide +kernel⟩
theorem dd_Number_eq (D_compared : Df P w K mg base ca 4 "compared" sp_compared) (c_Number : mg "Number" = some (.ref (ca "Number"))) (f_isinstance : mg "isinstance" = none) (hIs : ∀ c, ClsI K (ca c)) {f : Addr} {cdv : Value} {A : Around} {outer : List Env} {s : Shared} {H : Hp} {E : XK} (hr : Room 4 (A.deeper (PyProof.Rows.envOfC "Number.__eq__" (defScope st_Number_eq) s.heap.objs.size f cdv))) :
    DSs (cxOf CX0 P w K mg base N_Number_eq "Number.__eq__" (defScope st_Number_eq) f cdv A outer s H E) ca H (defBody st_Number_eq) (rd_Number_eq K ca) :=
  (dss_cons (ds_if (dt_not (dt_tru (do_val (de_callB call_isi (cd_isi hIs) (by rfl) f_isinstance bt_isinstance (dao_cons (do_slot (pv 1)) (dao_cons (do_val (de_cls (by rfl) c_Number)) dao_nil)))))) (dss_one (ds_ret de_bl)) dss_nil) (dss_cons (ds_asg (de_app D_compared (hr.mono (by decide)) (by rfl) (da_cons (de_var (pv 0)) (da_cons (de_var (pv 1)) da_nil))) (dg_tup (by rfl) (dgs_cons (dg_name (i := 2) nd_Number_eq (by rfl) (by first | exact .inl rfl | exact .inr rfl)) (dgs_cons (dg_name (i := 3) nd_Number_eq (by rfl) (by first | exact .inl rfl | exact .inr rfl)) dgs_nil)))) (dss_one (ds_ret (de_cmp (op_eqD hr.units) od_eq (do_val (de_new (df_lc (own := [("mine", 4), ("yours", 5)]) (by rfl) nd_Number_eq (DI.fix (di_seq (de_var (pv 3)))) (blkOk_by (own := [("mine", 4), ("yours", 5)]) (N := N_Number_eq) (sc := defScope st_Number_eq) (by decide +kernel)) (fun _ _ _ _ _ => (dg_tup (by rfl) (dgs_cons (dg_name (i := 4) nd_Number_eq (by rfl) (by first | exact .inl rfl | exact .inr rfl)) (dgs_cons (dg_name (i := 5) nd_Number_eq (by rfl) (by first | exact .inl rfl | exact .inr rfl)) dgs_nil)))) (fun _ _ _ _ _ => (dts_one (dt_cmp (op_neD hr.units) od_ne (do_slot (pv 4)) (do_slot (pv 5)) (nomark _)))) (fun _ _ _ _ _ => (de_var (pv 4)))))) (do_val (de_new (df_lst da_nil))) (nomark _))))))
theorem ok_Number_eq (D_compared : Df P w K mg base ca 4 "compared" sp_compared) (c_Number : mg "Number" = some (.ref (ca "Number"))) (f_isinstance : mg "isinstance" = none) (hIs : ∀ c, ClsI K (ca c)) {f : Addr} {fd : FuncData} (F : FnP K "__eq__" "Number.__eq__" st_Number_eq f fd) : FnR P w K mg base CX0 5 f (LSp K ca sp_eq) :=
  fr_of F sc_Number_eq (F.bindsN fun _ _ _ _ _ _ us hl => match us, hl with | [_, _], _ => rfl) (fun ds Q h => by obtain ⟨_, _, _, rfl, _⟩ := h; rfl) (by decide) (fun cdv A outer s H E hr => dd_Number_eq D_compared c_Number f_isinstance hIs hr) does_Number_eq
/-! Number.__floordiv__ -/
abbrev st_Number_floordiv : Stmt := (clsBody (top 30)).getD 8 (.Pass ⟨0, 0, 0, 0⟩)
abbrev N_Number_floordiv : List Str := ["self", "other", "base", "pairs", "mine", "yours"]
abbrev P_Number_floordiv : List Str := ["self", "other"]
theorem nd_Number_floordiv : N_Number_floordiv.Nodup := by decide +kernel
theorem sc_Number_floordiv : FnScope N_Number_floordiv P_Number_floordiv (defScope st_Number_floordiv) := ⟨rfl, rfl, rfl, nd_Number_floordiv, rfl, by decide +kernel, by decide +kernel⟩
theorem dd_Number_floordiv (D_compared : Df P w K mg base ca 4 "compared" sp_compared) (D_number_with : Df P w K mg base ca 5 "number_with" sp_number_with) {f : Addr} {cdv : Value} {A : Around} {outer : List Env} {s : Shared} {H : Hp} {E : XK} (hr : Room 5 (A.deeper (PyProof.Rows.envOfC "Number.__floordiv__" (defScope st_Number_floordiv) s.heap.objs.size f cdv))) :
    DSs (cxOf CX0 P w K mg base N_Number_floordiv "Number.__floordiv__" (defScope st_Number_floordiv) f cdv A outer s H E) ca H (defBody st_Number_floordiv) (rd_Number_floordiv) :=
  (dss_cons (ds_asg (de_app D_compared (hr.mono (by decide)) (by rfl) (da_cons (de_var (pv 0)) (da_cons (de_var (pv 1)) da_nil))) (dg_tup (by rfl) (dgs_cons (dg_name (i := 2) nd_Number_floordiv (by rfl) (by first | exact .inl rfl | exact .inr rfl)) (dgs_cons (dg_name (i := 3) nd_Number_floordiv (by rfl) (by first | exact .inl rfl | exact .inr rfl)) dgs_nil)))) (dss_cons (ds_if (dt_cmp (op_neD hr.units) od_ne (do_val (de_new (df_lc (own := [("mine", 4), ("yours", 5)]) (by rfl) nd_Number_floordiv (DI.fix (di_seq (de_var (pv 3)))) (blkOk_by (own := [("mine", 4), ("yours", 5)]) (N := N_Number_floordiv) (sc := defScope st_Number_floordiv) (by decide +kernel)) (fun _ _ _ _ _ => (dg_tup (by rfl) (dgs_cons (dg_name (i := 4) nd_Number_floordiv (by rfl) (by first | exact .inl rfl | exact .inr rfl)) (dgs_cons (dg_name (i := 5) nd_Number_floordiv (by rfl) (by first | exact .inl rfl | exact .inr rfl)) dgs_nil)))) (fun _ _ _ _ _ => (dts_one (dt_cmp op_lt od_lt (do_slot (pv 4)) (do_slot (pv 5)) (nomark _)))) (fun _ _ _ _ _ => (de_var (pv 4)))))) (do_val (de_new (df_lst da_nil))) (nomark _)) (dss_one ds_never) dss_nil) (dss_one (ds_ret (de_app D_number_with (hr.mono (by decide)) (by rfl) (da_cons (de_var (pv 2)) (da_cons (de_new (df_lc (own := [("mine", 4), ("yours", 5)]) (by rfl) nd_Number_floordiv (DI.fix (di_seq (de_var (pv 3)))) (blkOk_by (own := [("mine", 4), ("yours", 5)]) (N := N_Number_floordiv) (sc := defScope st_Number_floordiv) (by decide +kernel)) (fun _ _ _ _ _ => (dg_tup (by rfl) (dgs_cons (dg_name (i := 4) nd_Number_floordiv (by rfl) (by first | exact .inl rfl | exact .inr rfl)) (dgs_cons (dg_name (i := 5) nd_Number_floordiv (by rfl) (by first | exact .inl rfl | exact .inr rfl)) dgs_nil)))) (fun _ _ _ _ _ => dts_nil) (fun _ _ _ _ _ => (de_op op_sub od_sub (do_slot (pv 4)) (do_slot (pv 5)))))) da_nil)))))))
theorem ok_Number_floordiv (D_compared : Df P w K mg base ca 4 "compared" sp_compared) (D_number_with : Df P w K mg base ca 5 "number_with" sp_number_with) {f : Addr} {fd : FuncData} (F : FnP K "__floordiv__" "Number.__floordiv__" st_Number_floordiv f fd) : FnR P w K mg base CX0 6 f (LSp K ca sp_floordiv) :=
  fr_of F sc_Number_floordiv (F.bindsN fun _ _ _ _ _ _ us hl => match us, hl with | [_, _], _ => rfl) (fun ds Q h => by obtain ⟨_, _, _, rfl, _⟩ := h; rfl) (by decide) (fun cdv A outer s H E hr => dd_Number_floordiv D_compared D_number_with hr) does_Number_floordiv
/-! Number.__mul__ -/
abbrev st_Number_mul : Stmt := (clsBody (top 30)).getD 7 (.Pass ⟨0, 0, 0, 0⟩)
abbrev N_Number_mul : List Str := ["self", "other", "base", "pairs", "mine", "yours"]
abbrev P_Number_mul : List Str := ["self", "other"]
theorem nd_Number_mul : N_Number_mul.Nodup := by decide +kernel
theorem sc_Number_mul : FnScope N_Number_mul P_Number_mul (defScope st_Number_mul) := ⟨rfl, rfl, rfl, nd_Number_mul, rfl, by decide +kernel, by decide +kernel⟩
theorem dd_Number_mul (D_compared : Df P w K mg base ca 4 "compared" sp_compared) (D_number_with : Df P w K mg base ca 5 "number_with" sp_number_with) {f : Addr} {cdv : Value} {A : Around} {outer : List Env} {s : Shared} {H : Hp} {E : XK} (hr : Room 5 (A.deeper (PyProof.Rows.envOfC "Number.__mul__" (defScope st_Number_mul) s.heap.objs.size f cdv))) :
    DSs (cxOf CX0 P w K mg base N_Number_mul "Number.__mul__" (defScope st_Number_mul) f cdv A outer s H E) ca H (defBody st_Number_mul) (rd_Number_mul) :=
  (dss_cons (ds_asg (de_app D_compared (hr.mono (by decide)) (by rfl) (da_cons (de_var (pv 0)) (da_cons (de_var (pv 1)) da_nil))) (dg_tup (by rfl) (dgs_cons (dg_name (i := 2) nd_Number_mul (by rfl) (by first | exact .inl rfl | exact .inr rfl)) (dgs_cons (dg_name (i := 3) nd_Number_mul (by rfl) (by first | exact .inl rfl | exact .inr rfl)) dgs_nil)))) (dss_one (ds_ret (de_app D_number_with (hr.mono (by decide)) (by rfl) (da_cons (de_var (pv 2)) (da_cons (de_new (df_lc (own := [("mine", 4), ("yours", 5)]) (by rfl) nd_Number_mul (DI.fix (di_seq (de_var (pv 3)))) (blkOk_by (own := [("mine", 4), ("yours", 5)]) (N := N_Number_mul) (sc := defScope st_Number_mul) (by decide +kernel)) (fun _ _ _ _ _ => (dg_tup (by rfl) (dgs_cons (dg_name (i := 4) nd_Number_mul (by rfl) (by first | exact .inl rfl | exact .inr rfl)) (dgs_cons (dg_name (i := 5) nd_Number_mul (by rfl) (by first | exact .inl rfl | exact .inr rfl)) dgs_nil)))) (fun _ _ _ _ _ => dts_nil) (fun _ _ _ _ _ => (de_op or_addD od_add (do_slot (pv 4)) (do_slot (pv 5)))))) da_nil))))))
theorem ok_Number_mul (D_compared : Df P w K mg base ca 4 "compared" sp_compared) (D_number_with : Df P w K mg base ca 5 "number_with" sp_number_with) {f : Addr} {fd : FuncData} (F : FnP K "__mul__" "Number.__mul__" st_Number_mul f fd) : FnR P w K mg base CX0 6 f (LSp K ca sp_mul) :=
  fr_of F sc_Number_mul (F.bindsN fun _ _ _ _ _ _ us hl => match us, hl with | [_, _], _ => rfl) (fun ds Q h => by obtain ⟨_, _, _, rfl, _⟩ := h; rfl) (by decide) (fun cdv A outer s H E hr => dd_Number_mul D_compared D_number_with hr) does_Number_mul
/-! _law_pair_right -/
abbrev st_law_pair_right : Stmt := top 55
abbrev N_law_pair_right : List Str := ["_law_primes", "_law_number_here", "_law_mate", "_law_one", "_law_other", "_law_pairs", "_law_least", "_law_most", "_law_high", "_law_low", "_law_inner", "_law_outer", "_law_due"]
abbrev P_law_pair_right : List Str := ["_law_primes", "_law_number_here", "_law_mate", "_law_one", "_law_other"]
theorem nd_law_pair_right : N_law_pair_right.Nodup := by decide +kernel
theorem sc_law_pair_right : FnScope N_law_pair_right P_law_pair_right (defScope st_law_pair_right) := ⟨rfl, rfl, rfl, nd_law_pair_right, rfl, by decide +kernel, by decide +kernel⟩
theorem dd_law_pair_right (D_law_is : Df P w K mg base ca 2 "_law_is" sp_law_is) (D_divides : Df P w K mg base ca 5 "divides" sp_divides) (D_meet : Df P w K mg base ca 7 "meet" sp_meet) (D_parted : Df P w K mg base ca 6 "parted" sp_parted) (D_share : Df P w K mg base ca 7 "share" sp_share) (f_all : mg "all" = none) (f_list : mg "list" = none) (f_max : mg "max" = none) (f_min : mg "min" = none) (f_zip : mg "zip" = none) (o_and : OpB P w K mg base ca 6 "Number" .BitAnd sp_and) (o_eq : OpC P w K mg base ca 5 "Number" .Eq sp_eq) (o_floordiv : OpB P w K mg base ca 6 "Number" .FloorDiv sp_floordiv) (o_mul : OpB P w K mg base ca 6 "Number" .Mult sp_mul) (o_or : OpB P w K mg base ca 6 "Number" .BitOr sp_or) {f : Addr} {cdv : Value} {A : Around} {outer : List Env} {s : Shared} {H : Hp} {E : XK} (hr : Room 7 (A.deeper (PyProof.Rows.envOfC "_law_pair_right" (defScope st_law_pair_right) s.heap.objs.size f cdv))) :
    DSs (cxOf CX0 P w K mg base N_law_pair_right "_law_pair_right" (defScope st_law_pair_right) f cdv A outer s H E) ca H (defBody st_law_pair_right) (rd_law_pair_right) :=
  (dss_cons (ds_asg (de_new (df_listzip (by rfl) (by rfl) f_zip (by rfl) f_list (da_cons (de_var (pv 3)) (da_cons (de_var (pv 4)) da_nil)))) (dg_name (i := 5) nd_law_pair_right (by rfl) (by first | exact .inl rfl | exact .inr rfl))) (dss_cons (by first | exact (ds_parP (i := 6) (j := 7) (by rfl) nd_law_pair_right (by rfl) (by rfl) (by decide) (by rfl) (by rfl) (da_cons (de_new (df_lc (own := [("_law_high", 8), ("_law_low", 9)]) (by rfl) nd_law_pair_right (DI.fix (di_seq (de_var (pv 5)))) (blkOk_by (own := [("_law_high", 8), ("_law_low", 9)]) (N := N_law_pair_right) (sc := defScope st_law_pair_right) (by decide +kernel)) (fun _ _ _ _ _ => (dg_tup (by rfl) (dgs_cons (dg_name (i := 8) nd_law_pair_right (by rfl) (by first | exact .inl rfl | exact .inr rfl)) (dgs_cons (dg_name (i := 9) nd_law_pair_right (by rfl) (by first | exact .inl rfl | exact .inr rfl)) dgs_nil)))) (fun _ _ _ _ _ => dts_nil) (fun _ _ _ _ _ => (de_callB ((call_min2 (by rfl)).or (cr_min (by rfl))) cd_min (by rfl) f_min bt_min (dao_cons (do_slot (pv 8)) (dao_cons (do_slot (pv 9)) dao_nil)))))) (da_cons (de_new (df_lc (own := [("_law_high", 8), ("_law_low", 9)]) (by rfl) nd_law_pair_right (DI.fix (di_seq (de_var (pv 5)))) (blkOk_by (own := [("_law_high", 8), ("_law_low", 9)]) (N := N_law_pair_right) (sc := defScope st_law_pair_right) (by decide +kernel)) (fun _ _ _ _ _ => (dg_tup (by rfl) (dgs_cons (dg_name (i := 8) nd_law_pair_right (by rfl) (by first | exact .inl rfl | exact .inr rfl)) (dgs_cons (dg_name (i := 9) nd_law_pair_right (by rfl) (by first | exact .inl rfl | exact .inr rfl)) dgs_nil)))) (fun _ _ _ _ _ => dts_nil) (fun _ _ _ _ _ => (de_callB ((call_max2 (by rfl)).or (cr_max (by rfl))) cd_max (by rfl) f_max bt_max (dao_cons (do_slot (pv 8)) (dao_cons (do_slot (pv 9)) dao_nil)))))) da_nil)) (by rfl) (by rfl)) | exact (ds_asg (de_tup (da_cons (de_new (df_lc (own := [("_law_high", 8), ("_law_low", 9)]) (by rfl) nd_law_pair_right (DI.fix (di_seq (de_var (pv 5)))) (blkOk_by (own := [("_law_high", 8), ("_law_low", 9)]) (N := N_law_pair_right) (sc := defScope st_law_pair_right) (by decide +kernel)) (fun _ _ _ _ _ => (dg_tup (by rfl) (dgs_cons (dg_name (i := 8) nd_law_pair_right (by rfl) (by first | exact .inl rfl | exact .inr rfl)) (dgs_cons (dg_name (i := 9) nd_law_pair_right (by rfl) (by first | exact .inl rfl | exact .inr rfl)) dgs_nil)))) (fun _ _ _ _ _ => dts_nil) (fun _ _ _ _ _ => (de_callB ((call_min2 (by rfl)).or (cr_min (by rfl))) cd_min (by rfl) f_min bt_min (dao_cons (do_slot (pv 8)) (dao_cons (do_slot (pv 9)) dao_nil)))))) (da_cons (de_new (df_lc (own := [("_law_high", 8), ("_law_low", 9)]) (by rfl) nd_law_pair_right (DI.fix (di_seq (de_var (pv 5)))) (blkOk_by (own := [("_law_high", 8), ("_law_low", 9)]) (N := N_law_pair_right) (sc := defScope st_law_pair_right) (by decide +kernel)) (fun _ _ _ _ _ => (dg_tup (by rfl) (dgs_cons (dg_name (i := 8) nd_law_pair_right (by rfl) (by first | exact .inl rfl | exact .inr rfl)) (dgs_cons (dg_name (i := 9) nd_law_pair_right (by rfl) (by first | exact .inl rfl | exact .inr rfl)) dgs_nil)))) (fun _ _ _ _ _ => dts_nil) (fun _ _ _ _ _ => (de_callB ((call_max2 (by rfl)).or (cr_max (by rfl))) cd_max (by rfl) f_max bt_max (dao_cons (do_slot (pv 8)) (dao_cons (do_slot (pv 9)) dao_nil)))))) da_nil))) (dg_tup (by rfl) (dgs_cons (dg_name (i := 6) nd_law_pair_right (by rfl) (by first | exact .inl rfl | exact .inr rfl)) (dgs_cons (dg_name (i := 7) nd_law_pair_right (by rfl) (by first | exact .inl rfl | exact .inr rfl)) dgs_nil))))) (dss_cons (ds_if (DW.dt (dw_or (dt_not (dt_tru (do_val (de_app D_law_is (hr.mono (by decide)) (by rfl) (da_cons (de_ownB o_and (hr.mono (by decide)) (do_slot (pv 1)) (do_slot (pv 2))) (da_cons (de_var (pv 0)) (da_cons (de_var (pv 6)) da_nil))))))) (dw_or1 (dt_not (dt_tru (do_val (de_app D_law_is (hr.mono (by decide)) (by rfl) (da_cons (de_app D_share (hr.mono (by decide)) (by rfl) (da_cons (de_var (pv 2)) (da_cons (de_var (pv 1)) da_nil))) (da_cons (de_var (pv 0)) (da_cons (de_var (pv 6)) da_nil)))))))))) (dss_one (ds_ret de_bl)) dss_nil) (dss_cons (ds_if (DW.dt (dw_or (dt_not (dt_tru (do_val (de_app D_law_is (hr.mono (by decide)) (by rfl) (da_cons (de_ownB o_or (hr.mono (by decide)) (do_slot (pv 1)) (do_slot (pv 2))) (da_cons (de_var (pv 0)) (da_cons (de_var (pv 7)) da_nil))))))) (dw_or1 (dt_not (dt_tru (do_val (de_app D_law_is (hr.mono (by decide)) (by rfl) (da_cons (de_app D_meet (hr.mono (by decide)) (by rfl) (da_cons (de_var (pv 1)) (da_cons (de_var (pv 2)) da_nil))) (da_cons (de_var (pv 0)) (da_cons (de_var (pv 7)) da_nil)))))))))) (dss_one (ds_ret de_bl)) dss_nil) (dss_cons (ds_if (dt_not (dt_tru (do_val (de_app D_law_is (hr.mono (by decide)) (by rfl) (da_cons (de_ownB o_mul (hr.mono (by decide)) (do_slot (pv 1)) (do_slot (pv 2))) (da_cons (de_var (pv 0)) (da_cons (de_new (df_lc (own := [("_law_high", 8), ("_law_low", 9)]) (by rfl) nd_law_pair_right (DI.fix (di_seq (de_var (pv 5)))) (blkOk_by (own := [("_law_high", 8), ("_law_low", 9)]) (N := N_law_pair_right) (sc := defScope st_law_pair_right) (by decide +kernel)) (fun _ _ _ _ _ => (dg_tup (by rfl) (dgs_cons (dg_name (i := 8) nd_law_pair_right (by rfl) (by first | exact .inl rfl | exact .inr rfl)) (dgs_cons (dg_name (i := 9) nd_law_pair_right (by rfl) (by first | exact .inl rfl | exact .inr rfl)) dgs_nil)))) (fun _ _ _ _ _ => dts_nil) (fun _ _ _ _ _ => (de_op or_addD od_add (do_slot (pv 8)) (do_slot (pv 9)))))) da_nil))))))) (dss_one (ds_ret de_bl)) dss_nil) (dss_cons (ds_if (dt_not (dt_tru (do_val (de_app D_law_is (hr.mono (by decide)) (by rfl) (da_cons (de_ownB o_floordiv (hr.mono (by decide)) (do_val (de_ownB o_or (hr.mono (by decide)) (do_slot (pv 1)) (do_slot (pv 2)))) (do_slot (pv 2))) (da_cons (de_var (pv 0)) (da_cons (de_new (df_lc (own := [("_law_high", 8), ("_law_low", 9)]) (by rfl) nd_law_pair_right (DI.fix (di_zip (by rfl) f_zip (da_cons (de_var (pv 7)) (da_cons (de_var (pv 4)) da_nil)))) (blkOk_by (own := [("_law_high", 8), ("_law_low", 9)]) (N := N_law_pair_right) (sc := defScope st_law_pair_right) (by decide +kernel)) (fun _ _ _ _ _ => (dg_tup (by rfl) (dgs_cons (dg_name (i := 8) nd_law_pair_right (by rfl) (by first | exact .inl rfl | exact .inr rfl)) (dgs_cons (dg_name (i := 9) nd_law_pair_right (by rfl) (by first | exact .inl rfl | exact .inr rfl)) dgs_nil)))) (fun _ _ _ _ _ => dts_nil) (fun _ _ _ _ _ => (de_op op_sub od_sub (do_slot (pv 8)) (do_slot (pv 9)))))) da_nil))))))) (dss_one (ds_ret de_bl)) dss_nil) (dss_cons (ds_asg (de_app D_parted (hr.mono (by decide)) (by rfl) (da_cons (de_var (pv 1)) (da_cons (de_var (pv 2)) da_nil))) (dg_tup (by rfl) (dgs_cons (dg_name (i := 10) nd_law_pair_right (by rfl) (by first | exact .inl rfl | exact .inr rfl)) (dgs_cons (dg_name (i := 11) nd_law_pair_right (by rfl) (by first | exact .inl rfl | exact .inr rfl)) dgs_nil)))) (dss_cons (ds_if (dt_not (dt_tru (do_val (de_app D_law_is (hr.mono (by decide)) (by rfl) (da_cons (de_var (pv 10)) (da_cons (de_var (pv 0)) (da_cons (de_new (df_lc (own := [("_law_high", 8), ("_law_low", 9)]) (by rfl) nd_law_pair_right (DI.fix (di_seq (de_var (pv 5)))) (blkOk_by (own := [("_law_high", 8), ("_law_low", 9)]) (N := N_law_pair_right) (sc := defScope st_law_pair_right) (by decide +kernel)) (fun _ _ _ _ _ => (dg_tup (by rfl) (dgs_cons (dg_name (i := 8) nd_law_pair_right (by rfl) (by first | exact .inl rfl | exact .inr rfl)) (dgs_cons (dg_name (i := 9) nd_law_pair_right (by rfl) (by first | exact .inl rfl | exact .inr rfl)) dgs_nil)))) (fun _ _ _ _ _ => dts_nil) (fun _ _ _ _ _ => (de_if (dt_cmp op_gt od_gt (do_slot (pv 9)) (do_val de_int) (nomark _)) (de_var (pv 8)) de_int)))) da_nil))))))) (dss_one (ds_ret de_bl)) dss_nil) (dss_cons (ds_if (dt_not (dt_tru (do_val (de_app D_law_is (hr.mono (by decide)) (by rfl) (da_cons (de_var (pv 11)) (da_cons (de_var (pv 0)) (da_cons (de_new (df_lc (own := [("_law_high", 8), ("_law_low", 9)]) (by rfl) nd_law_pair_right (DI.fix (di_seq (de_var (pv 5)))) (blkOk_by (own := [("_law_high", 8), ("_law_low", 9)]) (N := N_law_pair_right) (sc := defScope st_law_pair_right) (by decide +kernel)) (fun _ _ _ _ _ => (dg_tup (by rfl) (dgs_cons (dg_name (i := 8) nd_law_pair_right (by rfl) (by first | exact .inl rfl | exact .inr rfl)) (dgs_cons (dg_name (i := 9) nd_law_pair_right (by rfl) (by first | exact .inl rfl | exact .inr rfl)) dgs_nil)))) (fun _ _ _ _ _ => dts_nil) (fun _ _ _ _ _ => (de_if (dt_cmp op_gt od_gt (do_slot (pv 9)) (do_val de_int) (nomark _)) de_int (de_var (pv 8)))))) da_nil))))))) (dss_one (ds_ret de_bl)) dss_nil) (dss_cons (ds_asg (de_new (df_lst (da_cons (de_callB (cr_all (by rfl)) cd_all (by rfl) f_all bt_all (dao_cons (do_val (de_new (df_lc (own := [("_law_high", 8), ("_law_low", 9)]) (by rfl) nd_law_pair_right (DI.fix (di_seq (de_var (pv 5)))) (blkOk_by (own := [("_law_high", 8), ("_law_low", 9)]) (N := N_law_pair_right) (sc := defScope st_law_pair_right) (by decide +kernel)) (fun _ _ _ _ _ => (dg_tup (by rfl) (dgs_cons (dg_name (i := 8) nd_law_pair_right (by rfl) (by first | exact .inl rfl | exact .inr rfl)) (dgs_cons (dg_name (i := 9) nd_law_pair_right (by rfl) (by first | exact .inl rfl | exact .inr rfl)) dgs_nil)))) (fun _ _ _ _ _ => dts_nil) (fun _ _ _ _ _ => (de_cmp op_le od_le (do_slot (pv 8)) (do_slot (pv 9)) (nomark _)))))) dao_nil)) (da_cons (de_cmp (op_eqD hr.units) od_eq (do_slot (pv 3)) (do_slot (pv 4)) (nomark _)) da_nil)))) (dg_name (i := 12) nd_law_pair_right (by rfl) (by first | exact .inl rfl | exact .inr rfl))) (dss_one (ds_ret (de_cmp (op_eqD hr.units) od_eq (do_val (de_new (df_lst (da_cons (de_app D_divides (hr.mono (by decide)) (by rfl) (da_cons (de_var (pv 1)) (da_cons (de_var (pv 2)) da_nil))) (da_cons (de_ownC o_eq (hr.mono (by decide)) (do_slot (pv 1)) (do_slot (pv 2))) da_nil))))) (do_slot (pv 12)) (nomark _))))))))))))))
theorem ok_law_pair_right (D_law_is : Df P w K mg base ca 2 "_law_is" sp_law_is) (D_divides : Df P w K mg base ca 5 "divides" sp_divides) (D_meet : Df P w K mg base ca 7 "meet" sp_meet) (D_parted : Df P w K mg base ca 6 "parted" sp_parted) (D_share : Df P w K mg base ca 7 "share" sp_share) (f_all : mg "all" = none) (f_list : mg "list" = none) (f_max : mg "max" = none) (f_min : mg "min" = none) (f_zip : mg "zip" = none) (o_and : OpB P w K mg base ca 6 "Number" .BitAnd sp_and) (o_eq : OpC P w K mg base ca 5 "Number" .Eq sp_eq) (o_floordiv : OpB P w K mg base ca 6 "Number" .FloorDiv sp_floordiv) (o_mul : OpB P w K mg base ca 6 "Number" .Mult sp_mul) (o_or : OpB P w K mg base ca 6 "Number" .BitOr sp_or) {f : Addr} {fd : FuncData} (F : FnP K "_law_pair_right" "_law_pair_right" st_law_pair_right f fd) : FnR P w K mg base CX0 8 f (LSp K ca sp_law_pair_right) :=
  fr_of F sc_law_pair_right (F.bindsN fun _ _ _ _ _ _ us hl => match us, hl with | [_, _, _, _, _], _ => rfl) (fun ds Q h => by unfold sp_law_pair_right at h; (repeat obtain ⟨_, h⟩ := h); subst_vars; rfl) (by decide) (fun cdv A outer s H E hr => dd_law_pair_right D_law_is D_divides D_meet D_parted D_share f_all f_list f_max f_min f_zip o_and o_eq o_floordiv o_mul o_or hr) does_pair_right
/-! _law_written -/
abbrev st_law_written : Stmt := top 53
abbrev N_law_written : List Str := ["_law_source_here", "_law_primes", "_law_many", "_law_powers", "_law_exps", "_law_turn", "_law_high", "_law_one", "_law_other"]
abbrev P_law_written : List Str := ["_law_source_here", "_law_primes", "_law_many"]
theorem nd_law_written : N_law_written.Nodup := by decide +kernel
theorem sc_law_written : FnScope N_law_written P_law_written (defScope st_law_written) := ⟨rfl, rfl, rfl, nd_law_written, rfl, by decide +kernel, by decide +kernel⟩
theorem dd_law_written (D_law_draw : Df P w K mg base ca 1 "_law_draw" sp_law_draw) (f_len : mg "len" = none) (f_range : mg "range" = none) (f_tuple : mg "tuple" = none) {f : Addr} {cdv : Value} {A : Around} {outer : List Env} {s : Shared} {H : Hp} {E : XK} (hr : Room 1 (A.deeper (PyProof.Rows.envOfC "_law_written" (defScope st_law_written) s.heap.objs.size f cdv))) :
    DSs (cxOf CX0 P w K mg base N_law_written "_law_written" (defScope st_law_written) f cdv A outer s H E) ca H (defBody st_law_written) (rd_law_written) :=
  (dss_cons (by first | exact (ds_par2 (i := 3) (j := 4) (by rfl) nd_law_written (by rfl) (by rfl) (by decide) (by rfl) (by rfl) (df_lst da_nil) (df_rep (do_val (de_new (df_lst (da_cons de_int da_nil)))) (do_val (de_callB call_len cd_len (by rfl) f_len bt_len (dao_cons (do_slot (pv 1)) dao_nil)))) (by rfl) (by rfl) (by rfl) (by rfl)) | exact (ds_own2 (df_lst da_nil) (df_rep (do_val (de_new (df_lst (da_cons de_int da_nil)))) (do_val (de_callB call_len cd_len (by rfl) f_len bt_len (dao_cons (do_slot (pv 1)) dao_nil)))) (pg_pair (i := 3) (j := 4) (by rfl) nd_law_written (by rfl) (by first | exact .inl rfl | exact .inr rfl) (by rfl) (by first | exact .inl rfl | exact .inr rfl)))) (dss_cons (ds_for (passes_of rfl) (by rfl) (di_range1 (by rfl) f_range (dao_cons (do_slot (pv 2)) dao_nil)) (dg_name (i := 5) nd_law_written (by rfl) (by first | exact .inl rfl | exact .inr rfl)) (dss_cons (by first | exact (ds_parP (i := 7) (j := 8) (by rfl) nd_law_written (by rfl) (by rfl) (by decide) (by rfl) (by rfl) (da_cons (de_app D_law_draw (hr.mono (by decide)) (by rfl) (da_cons (de_var (pv 0)) (da_cons (de_callB call_len cd_len (by rfl) f_len bt_len (dao_cons (do_slot (pv 1)) dao_nil)) da_nil))) (da_cons (de_app D_law_draw (hr.mono (by decide)) (by rfl) (da_cons (de_var (pv 0)) (da_cons (de_callB call_len cd_len (by rfl) f_len bt_len (dao_cons (do_slot (pv 1)) dao_nil)) da_nil))) da_nil)) (by rfl) (by rfl)) | exact (ds_asg (de_tup (da_cons (de_app D_law_draw (hr.mono (by decide)) (by rfl) (da_cons (de_var (pv 0)) (da_cons (de_callB call_len cd_len (by rfl) f_len bt_len (dao_cons (do_slot (pv 1)) dao_nil)) da_nil))) (da_cons (de_app D_law_draw (hr.mono (by decide)) (by rfl) (da_cons (de_var (pv 0)) (da_cons (de_callB call_len cd_len (by rfl) f_len bt_len (dao_cons (do_slot (pv 1)) dao_nil)) da_nil))) da_nil))) (dg_tup (by rfl) (dgs_cons (dg_name (i := 7) nd_law_written (by rfl) (by first | exact .inl rfl | exact .inr rfl)) (dgs_cons (dg_name (i := 8) nd_law_written (by rfl) (by first | exact .inl rfl | exact .inr rfl)) dgs_nil))))) (dss_cons (ds_asg (de_ix (do_val (de_new (df_lst (da_cons de_int (da_cons (de_op or_addD od_add (do_val de_int) (do_val (de_app D_law_draw (hr.mono (by decide)) (by rfl) (da_cons (de_var (pv 0)) (da_cons de_int da_nil))))) (da_cons (de_op or_addD od_add (do_val de_int) (do_val (de_app D_law_draw (hr.mono (by decide)) (by rfl) (da_cons (de_var (pv 0)) (da_cons (de_op op_pow od_pow (do_val de_int) (do_val de_int)) da_nil))))) da_nil)))))) (do_val (de_app D_law_draw (hr.mono (by decide)) (by rfl) (da_cons (de_var (pv 0)) (da_cons de_int da_nil))))) (dg_name (i := 6) nd_law_written (by rfl) (by first | exact .inl rfl | exact .inr rfl))) (dss_cons (ds_expr (de_append (pv 3) (da_cons (de_tup (da_cons (de_op op_mulD od_mul (do_val (de_ix (do_slot (pv 1)) (do_slot (pv 7)))) (do_val (de_ix (do_slot (pv 1)) (do_slot (pv 8))))) (da_cons (de_var (pv 6)) da_nil))) da_nil))) (dss_cons (ds_asg (de_op or_addD od_add (do_val (de_ix (do_slot (pv 4)) (do_slot (pv 7)))) (do_slot (pv 6))) (dg_setI (pv 4) (do_slot (pv 7)))) (dss_one (ds_asg (de_op or_addD od_add (do_val (de_ix (do_slot (pv 4)) (do_slot (pv 8)))) (do_slot (pv 6))) (dg_setI (pv 4) (do_slot (pv 8)))))))))) (dss_one (ds_ret (de_tup (da_cons (de_callTy call_tuple_of cd_tuple (by rfl) f_tuple bt_tuple (dao_cons (do_slot (pv 3)) dao_nil)) (da_cons (de_var (pv 4)) da_nil)))))))
theorem ok_law_written (D_law_draw : Df P w K mg base ca 1 "_law_draw" sp_law_draw) (f_len : mg "len" = none) (f_range : mg "range" = none) (f_tuple : mg "tuple" = none) {f : Addr} {fd : FuncData} (F : FnP K "_law_written" "_law_written" st_law_written f fd) : FnR P w K mg base CX0 2 f (LSp K ca sp_law_written) :=
  fr_of F sc_law_written (F.bindsN fun _ _ _ _ _ _ us hl => match us, hl with | [_, _, _], _ => rfl) (fun ds Q h => by unfold sp_law_written at h; (repeat obtain ⟨_, h⟩ := h); subst_vars; rfl) (by decide) (fun cdv A outer s H E hr => dd_law_written D_law_draw f_len f_range f_tuple hr) does_law_written
/-! coprime_base -/
abbrev st_coprime_base : Stmt := top 44
abbrev N_coprime_base : List Str := ["numbers", "writings", "number"]
abbrev P_coprime_base : List Str := ["numbers"]
theorem nd_coprime_base : N_coprime_base.Nodup := by decide +kernel
theorem sc_coprime_base : FnScope N_coprime_base P_coprime_base (defScope st_coprime_base) := ⟨rfl, rfl, rfl, nd_coprime_base, rfl, by decide +kernel, by decide +kernel⟩
theorem dd_coprime_base (D_check_numbers : Df P w K mg base ca 1 "check_numbers" sp_check_numbers) (D_common_baseN : Df P w K mg base ca 3 "common_base" sp_common_baseN) (n_powers : NoAttr K (ca "Number") "powers") (hI : ClsI K (ca "Number")) {f : Addr} {cdv : Value} {A : Around} {outer : List Env} {s : Shared} {H : Hp} {E : XK} (hr : Room 3 (A.deeper (PyProof.Rows.envOfC "coprime_base" (defScope st_coprime_base) s.heap.objs.size f cdv))) :
    DSs (cxOf CX0 P w K mg base N_coprime_base "coprime_base" (defScope st_coprime_base) f cdv A outer s H E) ca H (defBody st_coprime_base) (rd_coprime_base) :=
  (dss_cons (ds_expr (de_app D_check_numbers (hr.mono (by decide)) (by rfl) (da_cons (de_var (pv 0)) (da_cons de_int da_nil)))) (dss_cons (ds_setLc (i := 1) (own := [("number", 2)]) (by rfl) nd_coprime_base (by rfl) (by rfl) (sw_true (by rfl) (by rfl) (by rfl) (by decide +kernel)) (DI.fix (di_seq (de_var (pv 0)))) (blkOk_by (own := [("number", 2)]) (N := N_coprime_base) (sc := defScope st_coprime_base) (by decide +kernel)) (fun _ _ _ _ _ => (dg_name (i := 2) nd_coprime_base (by rfl) (by first | exact .inl rfl | exact .inr rfl))) (fun _ _ _ _ _ => dts_nil) (fun _ _ _ _ _ => (de_fld (de_var (pv 2)) hI.cl n_powers))) (dss_one (ds_ret (de_appS D_common_baseN (hr.mono (by decide)) (by rfl) (do_slot (pv 1)))))))
theorem ok_coprime_base (D_check_numbers : Df P w K mg base ca 1 "check_numbers" sp_check_numbers) (D_common_baseN : Df P w K mg base ca 3 "common_base" sp_common_baseN) (n_powers : NoAttr K (ca "Number") "powers") (hI : ClsI K (ca "Number")) {f : Addr} {fd : FuncData} (F : FnP K "coprime_base" "coprime_base" st_coprime_base f fd) : FnR P w K mg base CX0 4 f (LSp K ca sp_coprime_base) :=
  fr_star (ps := []) (pv := "numbers") F sc_coprime_base (fun _ _ _ _ _ _ us rest hl => match us, rest, hl with | [], [], _ => rfl | [], _ :: _, _ => rfl) (fun ds Q h => by unfold sp_cpb at h; (repeat obtain ⟨_, h⟩ := h); subst_vars; rfl) (by decide) (fun cdv A outer s H E hr => dd_coprime_base D_check_numbers D_common_baseN n_powers hI hr) does_coprime_base
/-! exponent_in -/
abbrev st_exponent_in : Stmt := top 37
abbrev N_exponent_in : List Str := ["number", "base", "items", "pairs", "item", "exponent"]
abbrev P_exponent_in : List Str := ["number", "base"]
theorem nd_exponent_in : N_exponent_in.Nodup := by decide +kernel
theorem sc_exponent_in : FnScope N_exponent_in P_exponent_in (defScope st_exponent_in) := ⟨rfl, rfl, rfl, nd_exponent_in, rfl, by decide +kernel, by decide +kernel⟩
theorem dd_exponent_in (D_check_number : Df P w K mg base ca 1 "check_number" sp_check_number) (D_common_base : Df P w K mg base ca 3 "common_base" sp_common_base) (D_exponents_over : Df P w K mg base ca 3 "exponents_over" sp_exponents_over) (D_is_integer : Df P w K mg base ca 1 "is_integer" sp_is_integer) (D_times_in : Df P w K mg base ca 1 "times_in" sp_times_in) (m_MAX_BASE : ∃ u, mg "MAX_BASE" = some u ∧ RelV (.int 100000000000000000000) u) (n_powers : NoAttr K (ca "Number") "powers") (hI : ClsI K (ca "Number")) (f_list : mg "list" = none) (f_min : mg "min" = none) (f_zip : mg "zip" = none) {f : Addr} {cdv : Value} {A : Around} {outer : List Env} {s : Shared} {H : Hp} {E : XK} (hr : Room 3 (A.deeper (PyProof.Rows.envOfC "exponent_in" (defScope st_exponent_in) s.heap.objs.size f cdv))) :
    DSs (cxOf CX0 P w K mg base N_exponent_in "exponent_in" (defScope st_exponent_in) f cdv A outer s H E) ca H (defBody st_exponent_in) (rd_exponent_in) :=
  (dss_cons (ds_expr (de_app D_check_number (hr.mono (by decide)) (by rfl) (da_cons (de_var (pv 0)) da_nil))) (dss_cons (ds_if (dt_not (dt_tru (do_val (de_app D_is_integer (hr.mono (by decide)) (by rfl) (da_cons (de_var (pv 1)) (da_cons de_int (da_cons (de_con (by rfl) m_MAX_BASE (v := .int 100000000000000000000) (by intro _ _; rfl)) da_nil))))))) (dss_one ds_never) dss_nil) (dss_cons (ds_asg (de_app D_common_base (hr.mono (by decide)) (by rfl) (da_cons (de_fld (de_var (pv 0)) hI.cl n_powers) (da_cons (de_tup (da_cons (de_tup (da_cons (de_var (pv 1)) (da_cons de_int da_nil))) da_nil)) da_nil))) (dg_name (i := 2) nd_exponent_in (by rfl) (by first | exact .inl rfl | exact .inr rfl))) (dss_cons (ds_asg (de_new (df_listzip (by rfl) (by rfl) f_zip (by rfl) f_list (da_cons (de_var (pv 2)) (da_cons (de_app D_exponents_over (hr.mono (by decide)) (by rfl) (da_cons (de_fld (de_var (pv 0)) hI.cl n_powers) (da_cons (de_var (pv 2)) da_nil))) da_nil)))) (dg_name (i := 3) nd_exponent_in (by rfl) (by first | exact .inl rfl | exact .inr rfl))) (dss_one (ds_ret (de_callB ((call_min2 (by rfl)).or (cr_min (by rfl))) cd_min (by rfl) f_min bt_min (dao_cons (do_val (de_new (df_lc (own := [("item", 4), ("exponent", 5)]) (by rfl) nd_exponent_in (DI.fix (di_seq (de_var (pv 3)))) (blkOk_by (own := [("item", 4), ("exponent", 5)]) (N := N_exponent_in) (sc := defScope st_exponent_in) (by decide +kernel)) (fun _ _ _ _ _ => (dg_tup (by rfl) (dgs_cons (dg_name (i := 4) nd_exponent_in (by rfl) (by first | exact .inl rfl | exact .inr rfl)) (dgs_cons (dg_name (i := 5) nd_exponent_in (by rfl) (by first | exact .inl rfl | exact .inr rfl)) dgs_nil)))) (fun _ _ _ _ _ => (dts_one (dt_cmp (op_eqD hr.units) od_eq (do_val (de_op op_mod od_mod (do_slot (pv 1)) (do_slot (pv 4)))) (do_val de_int) (nomark _)))) (fun _ _ _ _ _ => (de_op op_fdivW od_fdiv (do_slot (pv 5)) (do_val (de_app D_times_in (hr.mono (by decide)) (by rfl) (da_cons (de_var (pv 1)) (da_cons (de_var (pv 4)) da_nil))))))))) dao_nil))))))))
theorem ok_exponent_in (D_check_number : Df P w K mg base ca 1 "check_number" sp_check_number) (D_common_base : Df P w K mg base ca 3 "common_base" sp_common_base) (D_exponents_over : Df P w K mg base ca 3 "exponents_over" sp_exponents_over) (D_is_integer : Df P w K mg base ca 1 "is_integer" sp_is_integer) (D_times_in : Df P w K mg base ca 1 "times_in" sp_times_in) (m_MAX_BASE : ∃ u, mg "MAX_BASE" = some u ∧ RelV (.int 100000000000000000000) u) (n_powers : NoAttr K (ca "Number") "powers") (hI : ClsI K (ca "Number")) (f_list : mg "list" = none) (f_min : mg "min" = none) (f_zip : mg "zip" = none) {f : Addr} {fd : FuncData} (F : FnP K "exponent_in" "exponent_in" st_exponent_in f fd) : FnR P w K mg base CX0 4 f (LSp K ca sp_exponent_in) :=
  fr_of F sc_exponent_in (F.bindsN fun _ _ _ _ _ _ us hl => match us, hl with | [_, _], _ => rfl) (fun ds Q h => by unfold sp_exponent_in at h; (repeat obtain ⟨_, h⟩ := h); subst_vars; rfl) (by decide) (fun cdv A outer s H E hr => dd_exponent_in D_check_number D_common_base D_exponents_over D_is_integer D_times_in m_MAX_BASE n_powers hI f_list f_min f_zip hr) does_exponent_in
/-! powered -/
abbrev st_powered : Stmt := top 36
abbrev N_powered : List Str := ["value", "times", "found"]
abbrev P_powered : List Str := ["value", "times"]
theorem nd_powered : N_powered.Nodup := by decide +kernel
theorem sc_powered : FnScope N_powered P_powered (defScope st_powered) := ⟨rfl, rfl, rfl, nd_powered, rfl, by decide +kernel, by decide +kernel⟩
theorem dd_powered  {f : Addr} {cdv : Value} {A : Around} {outer : List Env} {s : Shared} {H : Hp} {E : XK} (hr : Room 0 (A.deeper (PyProof.Rows.envOfC "powered" (defScope st_powered) s.heap.objs.size f cdv))) :
    DSs (cxOf CX0 P w K mg base N_powered "powered" (defScope st_powered) f cdv A outer s H E) ca H (defBody st_powered) (rd_powered) :=
  (dss_cons (ds_asg de_int (dg_name (i := 2) nd_powered (by rfl) (by first | exact .inl rfl | exact .inr rfl))) (dss_cons (ds_while (passes_of rfl) (dt_cmp op_gt od_gt (do_slot (pv 1)) (do_val de_int) (nomark _)) (dss_cons (ds_if (dt_cmp (op_eqD hr.units) od_eq (do_val (de_op op_mod od_mod (do_slot (pv 1)) (do_val de_int))) (do_val de_int) (nomark _)) (dss_one (ds_asg (de_op op_mulD od_mul (do_slot (pv 2)) (do_slot (pv 0))) (dg_name (i := 2) nd_powered (by rfl) (by first | exact .inl rfl | exact .inr rfl)))) dss_nil) (dss_one (by first | exact (ds_parP (i := 0) (j := 1) (by rfl) nd_powered (by rfl) (by rfl) (by decide) (by rfl) (by rfl) (da_cons (de_op op_mulD od_mul (do_slot (pv 0)) (do_slot (pv 0))) (da_cons (de_op op_fdivW od_fdiv (do_slot (pv 1)) (do_val de_int)) da_nil)) (by rfl) (by rfl)) | exact (ds_asg (de_tup (da_cons (de_op op_mulD od_mul (do_slot (pv 0)) (do_slot (pv 0))) (da_cons (de_op op_fdivW od_fdiv (do_slot (pv 1)) (do_val de_int)) da_nil))) (dg_tup (by rfl) (dgs_cons (dg_name (i := 0) nd_powered (by rfl) (by first | exact .inl rfl | exact .inr rfl)) (dgs_cons (dg_name (i := 1) nd_powered (by rfl) (by first | exact .inl rfl | exact .inr rfl)) dgs_nil)))))))) (dss_one (ds_ret (de_var (pv 2))))))
theorem ok_powered  {f : Addr} {fd : FuncData} (F : FnP K "powered" "powered" st_powered f fd) : FnR P w K mg base CX0 1 f (LSp K ca sp_powered) :=
  fr_of F sc_powered (F.bindsN fun _ _ _ _ _ _ us hl => match us, hl with | [_, _], _ => rfl) (fun ds Q h => by unfold sp_powered at h; (repeat obtain ⟨_, h⟩ := h); subst_vars; rfl) (by decide) (fun cdv A outer s H E hr => dd_powered  hr) does_powered
/-! integer_root -/
abbrev st_integer_root : Stmt := top 39
abbrev N_integer_root : List Str := ["value", "times", "low", "high", "middle"]
abbrev P_integer_root : List Str := ["value", "times"]
theorem nd_integer_root : N_integer_root.Nodup := by decide +kernel
theorem sc_integer_root : FnScope N_integer_root P_integer_root (defScope st_integer_root) := ⟨rfl, rfl, rfl, nd_integer_root, rfl, by decide +kernel, by decide +kernel⟩
theorem dd_integer_root (D_powered : Df P w K mg base ca 1 "powered" sp_powered) {f : Addr} {cdv : Value} {A : Around} {outer : List Env} {s : Shared} {H : Hp} {E : XK} (hr : Room 1 (A.deeper (PyProof.Rows.envOfC "integer_root" (defScope st_integer_root) s.heap.objs.size f cdv))) :
    DSs (cxOf CX0 P w K mg base N_integer_root "integer_root" (defScope st_integer_root) f cdv A outer s H E) ca H (defBody st_integer_root) (rd_integer_root) :=
  (dss_cons (by first | exact (ds_parP (i := 2) (j := 3) (by rfl) nd_integer_root (by rfl) (by rfl) (by decide) (by rfl) (by rfl) (da_cons de_int (da_cons de_int da_nil)) (by rfl) (by rfl)) | exact (ds_asg (de_tup (da_cons de_int (da_cons de_int da_nil))) (dg_tup (by rfl) (dgs_cons (dg_name (i := 2) nd_integer_root (by rfl) (by first | exact .inl rfl | exact .inr rfl)) (dgs_cons (dg_name (i := 3) nd_integer_root (by rfl) (by first | exact .inl rfl | exact .inr rfl)) dgs_nil))))) (dss_cons (ds_while (passes_of rfl) (dt_cmp op_le od_le (do_val (de_app D_powered (hr.mono (by decide)) (by rfl) (da_cons (de_var (pv 3)) (da_cons (de_var (pv 1)) da_nil)))) (do_slot (pv 0)) (nomark _)) (dss_one (ds_augM (i := 3) nd_integer_root (by rfl) (by first | exact .inl rfl | exact .inr rfl) de_int))) (dss_cons (ds_while (passes_of rfl) (dt_cmp op_lt od_lt (do_slot (pv 2)) (do_slot (pv 3)) (nomark _)) (dss_cons (ds_asg (de_op op_fdivW od_fdiv (do_val (de_op or_addD od_add (do_val (de_op or_addD od_add (do_slot (pv 2)) (do_slot (pv 3)))) (do_val de_int))) (do_val de_int)) (dg_name (i := 4) nd_integer_root (by rfl) (by first | exact .inl rfl | exact .inr rfl))) (dss_one (ds_if (dt_cmp op_le od_le (do_val (de_app D_powered (hr.mono (by decide)) (by rfl) (da_cons (de_var (pv 4)) (da_cons (de_var (pv 1)) da_nil)))) (do_slot (pv 0)) (nomark _)) (dss_one (ds_asg (de_var (pv 4)) (dg_name (i := 2) nd_integer_root (by rfl) (by first | exact .inl rfl | exact .inr rfl)))) (dss_one (ds_asg (de_op op_sub od_sub (do_slot (pv 4)) (do_val de_int)) (dg_name (i := 3) nd_integer_root (by rfl) (by first | exact .inl rfl | exact .inr rfl)))))))) (dss_one (ds_ret (de_var (pv 2)))))))
theorem ok_integer_root (D_powered : Df P w K mg base ca 1 "powered" sp_powered) {f : Addr} {fd : FuncData} (F : FnP K "integer_root" "integer_root" st_integer_root f fd) : FnR P w K mg base CX0 2 f (LSp K ca sp_integer_root) :=
  fr_of F sc_integer_root (F.bindsN fun _ _ _ _ _ _ us hl => match us, hl with | [_, _], _ => rfl) (fun ds Q h => by unfold sp_integer_root at h; (repeat obtain ⟨_, h⟩ := h); subst_vars; rfl) (by decide) (fun cdv A outer s H E hr => dd_integer_root D_powered hr) does_integer_root
/-! simplest -/
abbrev st_simplest : Stmt := top 40
abbrev N_simplest : List Str := ["value", "top", "left", "times", "root_here"]
abbrev P_simplest : List Str := ["value"]
theorem nd_simplest : N_simplest.Nodup := by decide +kernel
theorem sc_simplest : FnScope N_simplest P_simplest (defScope st_simplest) := ⟨rfl, rfl, rfl, nd_simplest, rfl, by decide +kernel, by decide +kernel⟩
theorem dd_simplest (D_integer_root : Df P w K mg base ca 2 "integer_root" sp_integer_root) (D_powered : Df P w K mg base ca 1 "powered" sp_powered) (f_range : mg "range" = none) {f : Addr} {cdv : Value} {A : Around} {outer : List Env} {s : Shared} {H : Hp} {E : XK} (hr : Room 2 (A.deeper (PyProof.Rows.envOfC "simplest" (defScope st_simplest) s.heap.objs.size f cdv))) :
    DSs (cxOf CX0 P w K mg base N_simplest "simplest" (defScope st_simplest) f cdv A outer s H E) ca H (defBody st_simplest) (rd_simplest) :=
  (dss_cons (by first | exact (ds_parP (i := 1) (j := 2) (by rfl) nd_simplest (by rfl) (by rfl) (by decide) (by rfl) (by rfl) (da_cons de_int (da_cons (de_var (pv 0)) da_nil)) (by rfl) (by rfl)) | exact (ds_asg (de_tup (da_cons de_int (da_cons (de_var (pv 0)) da_nil))) (dg_tup (by rfl) (dgs_cons (dg_name (i := 1) nd_simplest (by rfl) (by first | exact .inl rfl | exact .inr rfl)) (dgs_cons (dg_name (i := 2) nd_simplest (by rfl) (by first | exact .inl rfl | exact .inr rfl)) dgs_nil))))) (dss_cons (ds_while (passes_of rfl) (dt_cmp op_gt od_gt (do_slot (pv 2)) (do_val de_int) (nomark _)) (dss_one (by first | exact (ds_parP (i := 1) (j := 2) (by rfl) nd_simplest (by rfl) (by rfl) (by decide) (by rfl) (by rfl) (da_cons (de_op or_addD od_add (do_slot (pv 1)) (do_val de_int)) (da_cons (de_op op_fdivW od_fdiv (do_slot (pv 2)) (do_val de_int)) da_nil)) (by rfl) (by rfl)) | exact (ds_asg (de_tup (da_cons (de_op or_addD od_add (do_slot (pv 1)) (do_val de_int)) (da_cons (de_op op_fdivW od_fdiv (do_slot (pv 2)) (do_val de_int)) da_nil))) (dg_tup (by rfl) (dgs_cons (dg_name (i := 1) nd_simplest (by rfl) (by first | exact .inl rfl | exact .inr rfl)) (dgs_cons (dg_name (i := 2) nd_simplest (by rfl) (by first | exact .inl rfl | exact .inr rfl)) dgs_nil))))))) (dss_cons (ds_for (passes_of rfl) (by rfl) (di_rangeD (by rfl) f_range (dao_cons (do_slot (pv 1)) (dao_cons (do_val de_int) (dao_cons (do_val (de_un un_neg ud_neg (do_val de_int))) dao_nil)))) (dg_name (i := 3) nd_simplest (by rfl) (by first | exact .inl rfl | exact .inr rfl)) (dss_cons (ds_asg (de_app D_integer_root (hr.mono (by decide)) (by rfl) (da_cons (de_var (pv 0)) (da_cons (de_var (pv 3)) da_nil))) (dg_name (i := 4) nd_simplest (by rfl) (by first | exact .inl rfl | exact .inr rfl))) (dss_one (ds_if (dt_cmp (op_eqD hr.units) od_eq (do_val (de_app D_powered (hr.mono (by decide)) (by rfl) (da_cons (de_var (pv 4)) (da_cons (de_var (pv 3)) da_nil)))) (do_slot (pv 0)) (nomark _)) (dss_one (ds_ret (de_tup (da_cons (de_var (pv 4)) (da_cons (de_var (pv 3)) da_nil))))) dss_nil)))) (dss_one (ds_ret (de_tup (da_cons (de_var (pv 0)) (da_cons de_int da_nil))))))))
theorem ok_simplest (D_integer_root : Df P w K mg base ca 2 "integer_root" sp_integer_root) (D_powered : Df P w K mg base ca 1 "powered" sp_powered) (f_range : mg "range" = none) {f : Addr} {fd : FuncData} (F : FnP K "simplest" "simplest" st_simplest f fd) : FnR P w K mg base CX0 3 f (LSp K ca sp_simplest) :=
  fr_of F sc_simplest (F.bindsN fun _ _ _ _ _ _ us hl => match us, hl with | [_], _ => rfl) (fun ds Q h => by unfold sp_simplest at h; (repeat obtain ⟨_, h⟩ := h); subst_vars; rfl) (by decide) (fun cdv A outer s H E hr => dd_simplest D_integer_root D_powered f_range hr) does_simplest
/-! simple_powers -/
abbrev st_simple_powers : Stmt := top 41
abbrev N_simple_powers : List Str := ["number", "base", "found", "item", "exponent", "least", "times"]
abbrev P_simple_powers : List Str := ["number"]
theorem nd_simple_powers : N_simple_powers.Nodup := by decide +kernel
theorem sc_simple_powers : FnScope N_simple_powers P_simple_powers (defScope st_simple_powers) := ⟨rfl, rfl, rfl, nd_simple_powers, rfl, by decide +kernel, by decide +kernel⟩
theorem dd_simple_powers (D_common_baseN : Df P w K mg base ca 3 "common_base" sp_common_baseN) (D_exponents_over : Df P w K mg base ca 3 "exponents_over" sp_exponents_over) (D_simplest : Df P w K mg base ca 3 "simplest" sp_simplest) (n_powers : NoAttr K (ca "Number") "powers") (hI : ClsI K (ca "Number")) (f_zip : mg "zip" = none) {f : Addr} {cdv : Value} {A : Around} {outer : List Env} {s : Shared} {H : Hp} {E : XK} (hr : Room 3 (A.deeper (PyProof.Rows.envOfC "simple_powers" (defScope st_simple_powers) s.heap.objs.size f cdv))) :
    DSs (cxOf CX0 P w K mg base N_simple_powers "simple_powers" (defScope st_simple_powers) f cdv A outer s H E) ca H (defBody st_simple_powers) (rd_simple_powers) :=
  (dss_cons (ds_asg (de_app D_common_baseN (hr.mono (by decide)) (by rfl) (da_cons (de_fld (de_var (pv 0)) hI.cl n_powers) da_nil)) (dg_name (i := 1) nd_simple_powers (by rfl) (by first | exact .inl rfl | exact .inr rfl))) (dss_cons (ds_own (i := 2) (df_lst da_nil) nd_simple_powers (by rfl) (by first | exact .inl rfl | exact .inr rfl)) (dss_cons (ds_for (passes_of rfl) (by rfl) (di_zip (by rfl) f_zip (da_cons (de_var (pv 1)) (da_cons (de_app D_exponents_over (hr.mono (by decide)) (by rfl) (da_cons (de_fld (de_var (pv 0)) hI.cl n_powers) (da_cons (de_var (pv 1)) da_nil))) da_nil))) (dg_tup (by rfl) (dgs_cons (dg_name (i := 3) nd_simple_powers (by rfl) (by first | exact .inl rfl | exact .inr rfl)) (dgs_cons (dg_name (i := 4) nd_simple_powers (by rfl) (by first | exact .inl rfl | exact .inr rfl)) dgs_nil))) (dss_cons (ds_asg (de_app D_simplest (hr.mono (by decide)) (by rfl) (da_cons (de_var (pv 3)) da_nil)) (dg_tup (by rfl) (dgs_cons (dg_name (i := 5) nd_simple_powers (by rfl) (by first | exact .inl rfl | exact .inr rfl)) (dgs_cons (dg_name (i := 6) nd_simple_powers (by rfl) (by first | exact .inl rfl | exact .inr rfl)) dgs_nil)))) (dss_one (ds_expr (de_append (pv 2) (da_cons (de_tup (da_cons (de_var (pv 5)) (da_cons (de_op op_mulD od_mul (do_slot (pv 6)) (do_slot (pv 4))) da_nil))) da_nil)))))) (dss_one (ds_ret (de_var (pv 2)))))))
theorem ok_simple_powers (D_common_baseN : Df P w K mg base ca 3 "common_base" sp_common_baseN) (D_exponents_over : Df P w K mg base ca 3 "exponents_over" sp_exponents_over) (D_simplest : Df P w K mg base ca 3 "simplest" sp_simplest) (n_powers : NoAttr K (ca "Number") "powers") (hI : ClsI K (ca "Number")) (f_zip : mg "zip" = none) {f : Addr} {fd : FuncData} (F : FnP K "simple_powers" "simple_powers" st_simple_powers f fd) : FnR P w K mg base CX0 4 f (LSp K ca sp_simple_powers) :=
  fr_of F sc_simple_powers (F.bindsN fun _ _ _ _ _ _ us hl => match us, hl with | [_], _ => rfl) (fun ds Q h => by unfold sp_simple_powers at h; (repeat obtain ⟨_, h⟩ := h); subst_vars; rfl) (by decide) (fun cdv A outer s H E hr => dd_simple_powers D_common_baseN D_exponents_over D_simplest n_powers hI f_zip hr) does_simple_powers
/-! greatest_root -/
abbrev st_greatest_root : Stmt := top 43
abbrev N_greatest_root : List Str := ["number", "found", "times", "base", "exponent", "pairs"]
abbrev P_greatest_root : List Str := ["number"]
theorem nd_greatest_root : N_greatest_root.Nodup := by decide +kernel
theorem sc_greatest_root : FnScope N_greatest_root P_greatest_root (defScope st_greatest_root) := ⟨rfl, rfl, rfl, nd_greatest_root, rfl, by decide +kernel, by decide +kernel⟩
theorem dd_greatest_root (D_Number : Df P w K mg base ca 4 "Number" sp_Number) (D_check_number : Df P w K mg base ca 1 "check_number" sp_check_number) (D_common_divisor : Df P w K mg base ca 1 "common_divisor" sp_common_divisor) (D_simple_powers : Df P w K mg base ca 4 "simple_powers" sp_simple_powers) (n_powers : NoAttr K (ca "Number") "powers") (hI : ClsI K (ca "Number")) {f : Addr} {cdv : Value} {A : Around} {outer : List Env} {s : Shared} {H : Hp} {E : XK} (hr : Room 4 (A.deeper (PyProof.Rows.envOfC "greatest_root" (defScope st_greatest_root) s.heap.objs.size f cdv))) :
    DSs (cxOf CX0 P w K mg base N_greatest_root "greatest_root" (defScope st_greatest_root) f cdv A outer s H E) ca H (defBody st_greatest_root) (rd_greatest_root) :=
  (dss_cons (ds_expr (de_app D_check_number (hr.mono (by decide)) (by rfl) (da_cons (de_var (pv 0)) da_nil))) (dss_cons (ds_if (dt_cmp (op_eqD hr.units) od_eq (do_val (de_fld (de_var (pv 0)) hI.cl n_powers)) (do_val (de_tup da_nil)) (nomark _)) (dss_one ds_never) dss_nil) (dss_cons (by first | exact (ds_parP (i := 1) (j := 2) (by rfl) nd_greatest_root (by rfl) (by rfl) (by decide) (by rfl) (by rfl) (da_cons (de_app D_simple_powers (hr.mono (by decide)) (by rfl) (da_cons (de_var (pv 0)) da_nil)) (da_cons de_int da_nil)) (by rfl) (by rfl)) | exact (ds_asg (de_tup (da_cons (de_app D_simple_powers (hr.mono (by decide)) (by rfl) (da_cons (de_var (pv 0)) da_nil)) (da_cons de_int da_nil))) (dg_tup (by rfl) (dgs_cons (dg_name (i := 1) nd_greatest_root (by rfl) (by first | exact .inl rfl | exact .inr rfl)) (dgs_cons (dg_name (i := 2) nd_greatest_root (by rfl) (by first | exact .inl rfl | exact .inr rfl)) dgs_nil))))) (dss_cons (ds_for (passes_of rfl) (by rfl) (di_seq (de_var (pv 1))) (dg_tup (by rfl) (dgs_cons (dg_name (i := 3) nd_greatest_root (by rfl) (by first | exact .inl rfl | exact .inr rfl)) (dgs_cons (dg_name (i := 4) nd_greatest_root (by rfl) (by first | exact .inl rfl | exact .inr rfl)) dgs_nil))) (dss_one (ds_asg (de_app D_common_divisor (hr.mono (by decide)) (by rfl) (da_cons (de_var (pv 4)) (da_cons (de_var (pv 2)) da_nil))) (dg_name (i := 2) nd_greatest_root (by rfl) (by first | exact .inl rfl | exact .inr rfl))))) (dss_cons (ds_setLc (i := 5) (own := [("base", 3), ("exponent", 4)]) (by rfl) nd_greatest_root (by rfl) (by rfl) (sw_true (by rfl) (by rfl) (by rfl) (by decide +kernel)) (DI.fix (di_seq (de_var (pv 1)))) (blkOk_by (own := [("base", 3), ("exponent", 4)]) (N := N_greatest_root) (sc := defScope st_greatest_root) (by decide +kernel)) (fun _ _ _ _ _ => (dg_tup (by rfl) (dgs_cons (dg_name (i := 3) nd_greatest_root (by rfl) (by first | exact .inl rfl | exact .inr rfl)) (dgs_cons (dg_name (i := 4) nd_greatest_root (by rfl) (by first | exact .inl rfl | exact .inr rfl)) dgs_nil)))) (fun _ _ _ _ _ => dts_nil) (fun _ _ _ _ _ => (de_tup (da_cons (de_var (pv 3)) (da_cons (de_op op_fdivW od_fdiv (do_slot (pv 4)) (do_slot (pv 2))) da_nil))))) (dss_one (ds_ret (de_tup (da_cons (de_appS D_Number (hr.mono (by decide)) (by rfl) (do_slot (pv 5))) (da_cons (de_var (pv 2)) da_nil))))))))))
theorem ok_greatest_root (D_Number : Df P w K mg base ca 4 "Number" sp_Number) (D_check_number : Df P w K mg base ca 1 "check_number" sp_check_number) (D_common_divisor : Df P w K mg base ca 1 "common_divisor" sp_common_divisor) (D_simple_powers : Df P w K mg base ca 4 "simple_powers" sp_simple_powers) (n_powers : NoAttr K (ca "Number") "powers") (hI : ClsI K (ca "Number")) {f : Addr} {fd : FuncData} (F : FnP K "greatest_root" "greatest_root" st_greatest_root f fd) : FnR P w K mg base CX0 5 f (LSp K ca sp_greatest_root) :=
  fr_of F sc_greatest_root (F.bindsN fun _ _ _ _ _ _ us hl => match us, hl with | [_], _ => rfl) (fun ds Q h => by unfold sp_greatest_root at h; (repeat obtain ⟨_, h⟩ := h); subst_vars; rfl) (by decide) (fun cdv A outer s H E hr => dd_greatest_root D_Number D_check_number D_common_divisor D_simple_powers n_powers hI hr) does_greatest_root
/-! root -/
abbrev st_root : Stmt := top 42
abbrev N_root : List Str := ["number", "times", "found", "base", "exponent", "pairs"]
abbrev P_root : List Str := ["number", "times"]
theorem nd_root : N_root.Nodup := by decide +kernel
theorem sc_root : FnScope N_root P_root (defScope st_root) := ⟨rfl, rfl, rfl, nd_root, rfl, by decide +kernel, by decide +kernel⟩
theorem dd_root (D_Number : Df P w K mg base ca 4 "Number" sp_Number) (D_check_number : Df P w K mg base ca 1 "check_number" sp_check_number) (D_is_integer : Df P w K mg base ca 1 "is_integer" sp_is_integer) (D_simple_powers : Df P w K mg base ca 4 "simple_powers" sp_simple_powers) {f : Addr} {cdv : Value} {A : Around} {outer : List Env} {s : Shared} {H : Hp} {E : XK} (hr : Room 4 (A.deeper (PyProof.Rows.envOfC "root" (defScope st_root) s.heap.objs.size f cdv))) :
    DSs (cxOf CX0 P w K mg base N_root "root" (defScope st_root) f cdv A outer s H E) ca H (defBody st_root) (rd_root) :=
  (dss_cons (ds_expr (de_app D_check_number (hr.mono (by decide)) (by rfl) (da_cons (de_var (pv 0)) da_nil))) (dss_cons (ds_if (dt_not (dt_tru (do_val (de_app D_is_integer (hr.mono (by decide)) (by rfl) (da_cons (de_var (pv 1)) (da_cons de_int (da_cons de_non da_nil))))))) (dss_one ds_never) dss_nil) (dss_cons (ds_asg (de_app D_simple_powers (hr.mono (by decide)) (by rfl) (da_cons (de_var (pv 0)) da_nil)) (dg_name (i := 2) nd_root (by rfl) (by first | exact .inl rfl | exact .inr rfl))) (dss_cons (ds_if (dt_cmp (op_neD hr.units) od_ne (do_val (de_new (df_lc (own := [("base", 3), ("exponent", 4)]) (by rfl) nd_root (DI.fix (di_seq (de_var (pv 2)))) (blkOk_by (own := [("base", 3), ("exponent", 4)]) (N := N_root) (sc := defScope st_root) (by decide +kernel)) (fun _ _ _ _ _ => (dg_tup (by rfl) (dgs_cons (dg_name (i := 3) nd_root (by rfl) (by first | exact .inl rfl | exact .inr rfl)) (dgs_cons (dg_name (i := 4) nd_root (by rfl) (by first | exact .inl rfl | exact .inr rfl)) dgs_nil)))) (fun _ _ _ _ _ => (dts_one (dt_cmp (op_neD hr.units) od_ne (do_val (de_op op_mod od_mod (do_slot (pv 4)) (do_slot (pv 1)))) (do_val de_int) (nomark _)))) (fun _ _ _ _ _ => (de_var (pv 4)))))) (do_val (de_new (df_lst da_nil))) (nomark _)) (dss_one ds_never) dss_nil) (dss_cons (ds_setLc (i := 5) (own := [("base", 3), ("exponent", 4)]) (by rfl) nd_root (by rfl) (by rfl) (sw_true (by rfl) (by rfl) (by rfl) (by decide +kernel)) (DI.fix (di_seq (de_var (pv 2)))) (blkOk_by (own := [("base", 3), ("exponent", 4)]) (N := N_root) (sc := defScope st_root) (by decide +kernel)) (fun _ _ _ _ _ => (dg_tup (by rfl) (dgs_cons (dg_name (i := 3) nd_root (by rfl) (by first | exact .inl rfl | exact .inr rfl)) (dgs_cons (dg_name (i := 4) nd_root (by rfl) (by first | exact .inl rfl | exact .inr rfl)) dgs_nil)))) (fun _ _ _ _ _ => dts_nil) (fun _ _ _ _ _ => (de_tup (da_cons (de_var (pv 3)) (da_cons (de_op op_fdivW od_fdiv (do_slot (pv 4)) (do_slot (pv 1))) da_nil))))) (dss_one (ds_ret (de_appS D_Number (hr.mono (by decide)) (by rfl) (do_slot (pv 5))))))))))
theorem ok_root (D_Number : Df P w K mg base ca 4 "Number" sp_Number) (D_check_number : Df P w K mg base ca 1 "check_number" sp_check_number) (D_is_integer : Df P w K mg base ca 1 "is_integer" sp_is_integer) (D_simple_powers : Df P w K mg base ca 4 "simple_powers" sp_simple_powers) {f : Addr} {fd : FuncData} (F : FnP K "root" "root" st_root f fd) : FnR P w K mg base CX0 5 f (LSp K ca sp_root) :=
  fr_of F sc_root (F.bindsN fun _ _ _ _ _ _ us hl => match us, hl with | [_, _], _ => rfl) (fun ds Q h => by unfold sp_root at h; (repeat obtain ⟨_, h⟩ := h); subst_vars; rfl) (by decide) (fun cdv A outer s H E hr => dd_root D_Number D_check_number D_is_integer D_simple_powers hr) does_root
/-! Number.__contains__ -/
abbrev st_Number_contains : Stmt := (clsBody (top 30)).getD 11 (.Pass ⟨0, 0, 0, 0⟩)
abbrev N_Number_contains : List Str := ["self", "value"]
abbrev P_Number_contains : List Str := ["self", "value"]
theorem nd_Number_contains : N_Number_contains.Nodup := by decide +kernel
theorem sc_Number_contains : FnScope N_Number_contains P_Number_contains (defScope st_Number_contains) := ⟨rfl, rfl, rfl, nd_Number_contains, rfl, by decide +kernel, by decide +kernel⟩
theorem dd_Number_contains (D_Number : Df P w K mg base ca 4 "Number" sp_Number) (D_divides : Df P w K mg base ca 5 "divides" sp_divides) (D_is_integer : Df P w K mg base ca 1 "is_integer" sp_is_integer) (m_MAX_BASE : ∃ u, mg "MAX_BASE" = some u ∧ RelV (.int 100000000000000000000) u) {f : Addr} {cdv : Value} {A : Around} {outer : List Env} {s : Shared} {H : Hp} {E : XK} (hr : Room 5 (A.deeper (PyProof.Rows.envOfC "Number.__contains__" (defScope st_Number_contains) s.heap.objs.size f cdv))) :
    DSs (cxOf CX0 P w K mg base N_Number_contains "Number.__contains__" (defScope st_Number_contains) f cdv A outer s H E) ca H (defBody st_Number_contains) (rd_Number_contains) :=
  (dss_cons (ds_if (dt_not (dt_tru (do_val (de_app D_is_integer (hr.mono (by decide)) (by rfl) (da_cons (de_var (pv 1)) (da_cons de_int (da_cons (de_con (by rfl) m_MAX_BASE (v := .int 100000000000000000000) (by intro _ _; rfl)) da_nil))))))) (dss_one (ds_ret de_bl)) dss_nil) (dss_one (ds_ret (de_app D_divides (hr.mono (by decide)) (by rfl) (da_cons (de_if (dt_cmp op_gt od_gt (do_slot (pv 1)) (do_val de_int) (nomark _)) (de_app D_Number (hr.mono (by decide)) (by rfl) (da_cons (de_tup (da_cons (de_var (pv 1)) (da_cons de_int da_nil))) da_nil)) (de_app0 D_Number (hr.mono (by decide)) (by rfl))) (da_cons (de_var (pv 0)) da_nil))))))
theorem ok_Number_contains (D_Number : Df P w K mg base ca 4 "Number" sp_Number) (D_divides : Df P w K mg base ca 5 "divides" sp_divides) (D_is_integer : Df P w K mg base ca 1 "is_integer" sp_is_integer) (m_MAX_BASE : ∃ u, mg "MAX_BASE" = some u ∧ RelV (.int 100000000000000000000) u) {f : Addr} {fd : FuncData} (F : FnP K "__contains__" "Number.__contains__" st_Number_contains f fd) : FnR P w K mg base CX0 6 f (LSp K ca sp_contains) :=
  fr_of F sc_Number_contains (F.bindsN fun _ _ _ _ _ _ us hl => match us, hl with | [_, _], _ => rfl) (fun ds Q h => by unfold sp_contains at h; (repeat obtain ⟨_, h⟩ := h); subst_vars; rfl) (by decide) (fun cdv A outer s H E hr => dd_Number_contains D_Number D_divides D_is_integer m_MAX_BASE hr) does_Number_contains
/-! _law_right -/
abbrev st_law_right : Stmt := top 57
abbrev N_law_right : List Str := ["_law_source_here", "_law_primes", "_law_rows", "_law_turn", "_law_numbers", "_law_every", "_law_powers", "_law_exps", "_law_k", "_law_j", "_law_base", "_law_spots", "_law_square", "_law_due", "_law_at"]
abbrev P_law_right : List Str := ["_law_source_here"]
theorem nd_law_right : N_law_right.Nodup := by decide +kernel
theorem sc_law_right : FnScope N_law_right P_law_right (defScope st_law_right) := ⟨rfl, rfl, rfl, nd_law_right, rfl, by decide +kernel, by decide +kernel⟩
theorem dd_law_right (D_law_base_right : Df P w K mg base ca 1 "_law_base_right" sp_law_base_right) (D_law_draw : Df P w K mg base ca 1 "_law_draw" sp_law_draw) (D_law_great : Df P w K mg base ca 1 "_law_great" sp_law_great) (D_law_is : Df P w K mg base ca 2 "_law_is" sp_law_is) (D_law_mixed : Df P w K mg base ca 2 "_law_mixed" sp_law_mixed) (D_law_num17 : Df P w K mg base ca 6 "_law_number" sp_law_num17) (D_law_pair_right : Df P w K mg base ca 8 "_law_pair_right" sp_law_pair_right) (D_law_written : Df P w K mg base ca 2 "_law_written" sp_law_written) (D_coprime_base : Df P w K mg base ca 4 "coprime_base" sp_coprime_base) (D_exponent_in : Df P w K mg base ca 4 "exponent_in" sp_exponent_in) (D_greatest_root : Df P w K mg base ca 5 "greatest_root" sp_greatest_root) (D_root : Df P w K mg base ca 5 "root" sp_root) (f_int : mg "int" = none) (f_len : mg "len" = none) (f_min : mg "min" = none) (f_range : mg "range" = none) (o_contains : OpIn P w K mg base ca 6 "Number" sp_contains) (o_mul : OpB P w K mg base ca 6 "Number" .Mult sp_mul) {f : Addr} {cdv : Value} {A : Around} {outer : List Env} {s : Shared} {H : Hp} {E : XK} (hr : Room 8 (A.deeper (PyProof.Rows.envOfC "_law_right" (defScope st_law_right) s.heap.objs.size f cdv))) :
    DSs (cxOf CX0 P w K mg base N_law_right "_law_right" (defScope st_law_right) f cdv A outer s H E) ca H (defBody st_law_right) (rd_law_right) :=
  (dss_cons (ds_asg (de_new (df_sl (do_val (de_app D_law_mixed (hr.mono (by decide)) (by rfl) (da_cons (de_var (pv 0)) (da_cons (de_app0 D_law_great (hr.mono (by decide)) (by rfl)) da_nil)))) dpo_none (dpo_some (do_val (de_op or_addD od_add (do_val de_int) (do_val (de_app D_law_draw (hr.mono (by decide)) (by rfl) (da_cons (de_var (pv 0)) (da_cons de_int da_nil))))))))) (dg_name (i := 1) nd_law_right (by rfl) (by first | exact .inl rfl | exact .inr rfl))) (dss_cons (ds_setLc (i := 2) (own := [("_law_turn", 3)]) (by rfl) nd_law_right (by rfl) (by rfl) (sw_true (by rfl) (by rfl) (by rfl) (by decide +kernel)) (DI.fix (di_range1 (by rfl) f_range (dao_cons (do_val de_int) dao_nil))) (blkOk_by (own := [("_law_turn", 3)]) (N := N_law_right) (sc := defScope st_law_right) (by decide +kernel)) (fun _ _ _ _ _ => (dg_name (i := 3) nd_law_right (by rfl) (by first | exact .inl rfl | exact .inr rfl))) (fun _ _ _ _ _ => dts_nil) (fun _ _ _ _ _ => (de_app D_law_written (hr.mono (by decide)) (by rfl) (da_cons (de_var (pv 0)) (da_cons (de_var (pv 1)) (da_cons (de_op or_addD od_add (do_val de_int) (do_val (de_app D_law_draw (hr.mono (by decide)) (by rfl) (da_cons (de_var (pv 0)) (da_cons de_int da_nil))))) da_nil)))))) (dss_cons (by first | exact (ds_parP (i := 4) (j := 5) (by rfl) nd_law_right (by rfl) (by rfl) (by decide) (by rfl) (by rfl) (da_cons (de_new (df_lc (own := [("_law_powers", 6), ("_law_exps", 7)]) (by rfl) nd_law_right (DI.fix (di_seq (de_var (pv 2)))) (blkOk_by (own := [("_law_powers", 6), ("_law_exps", 7)]) (N := N_law_right) (sc := defScope st_law_right) (by decide +kernel)) (fun _ _ _ _ _ => (dg_tup (by rfl) (dgs_cons (dg_name (i := 6) nd_law_right (by rfl) (by first | exact .inl rfl | exact .inr rfl)) (dgs_cons (dg_name (i := 7) nd_law_right (by rfl) (by first | exact .inl rfl | exact .inr rfl)) dgs_nil)))) (fun _ _ _ _ _ => dts_nil) (fun _ _ _ _ _ => (de_app D_law_num17 (hr.mono (by decide)) (by rfl) (da_cons (de_var (pv 6)) da_nil))))) (da_cons (de_new (df_lc (own := [("_law_powers", 6), ("_law_exps", 7)]) (by rfl) nd_law_right (DI.fix (di_seq (de_var (pv 2)))) (blkOk_by (own := [("_law_powers", 6), ("_law_exps", 7)]) (N := N_law_right) (sc := defScope st_law_right) (by decide +kernel)) (fun _ _ _ _ _ => (dg_tup (by rfl) (dgs_cons (dg_name (i := 6) nd_law_right (by rfl) (by first | exact .inl rfl | exact .inr rfl)) (dgs_cons (dg_name (i := 7) nd_law_right (by rfl) (by first | exact .inl rfl | exact .inr rfl)) dgs_nil)))) (fun _ _ _ _ _ => dts_nil) (fun _ _ _ _ _ => (de_var (pv 7))))) da_nil)) (by rfl) (by rfl)) | exact (ds_asg (de_tup (da_cons (de_new (df_lc (own := [("_law_powers", 6), ("_law_exps", 7)]) (by rfl) nd_law_right (DI.fix (di_seq (de_var (pv 2)))) (blkOk_by (own := [("_law_powers", 6), ("_law_exps", 7)]) (N := N_law_right) (sc := defScope st_law_right) (by decide +kernel)) (fun _ _ _ _ _ => (dg_tup (by rfl) (dgs_cons (dg_name (i := 6) nd_law_right (by rfl) (by first | exact .inl rfl | exact .inr rfl)) (dgs_cons (dg_name (i := 7) nd_law_right (by rfl) (by first | exact .inl rfl | exact .inr rfl)) dgs_nil)))) (fun _ _ _ _ _ => dts_nil) (fun _ _ _ _ _ => (de_app D_law_num17 (hr.mono (by decide)) (by rfl) (da_cons (de_var (pv 6)) da_nil))))) (da_cons (de_new (df_lc (own := [("_law_powers", 6), ("_law_exps", 7)]) (by rfl) nd_law_right (DI.fix (di_seq (de_var (pv 2)))) (blkOk_by (own := [("_law_powers", 6), ("_law_exps", 7)]) (N := N_law_right) (sc := defScope st_law_right) (by decide +kernel)) (fun _ _ _ _ _ => (dg_tup (by rfl) (dgs_cons (dg_name (i := 6) nd_law_right (by rfl) (by first | exact .inl rfl | exact .inr rfl)) (dgs_cons (dg_name (i := 7) nd_law_right (by rfl) (by first | exact .inl rfl | exact .inr rfl)) dgs_nil)))) (fun _ _ _ _ _ => dts_nil) (fun _ _ _ _ _ => (de_var (pv 7))))) da_nil))) (dg_tup (by rfl) (dgs_cons (dg_name (i := 4) nd_law_right (by rfl) (by first | exact .inl rfl | exact .inr rfl)) (dgs_cons (dg_name (i := 5) nd_law_right (by rfl) (by first | exact .inl rfl | exact .inr rfl)) dgs_nil))))) (dss_cons (ds_for (passes_of rfl) (by rfl) (di_range1 (by rfl) f_range (dao_cons (do_val de_int) dao_nil)) (dg_name (i := 8) nd_law_right (by rfl) (by first | exact .inl rfl | exact .inr rfl)) (dss_cons (ds_asg (de_op op_mod od_mod (do_val (de_op or_addD od_add (do_slot (pv 8)) (do_val de_int))) (do_val de_int)) (dg_name (i := 9) nd_law_right (by rfl) (by first | exact .inl rfl | exact .inr rfl))) (dss_cons (ds_if (dt_not (dt_tru (do_val (de_app D_law_pair_right (hr.mono (by decide)) (by rfl) (da_cons (de_var (pv 1)) (da_cons (de_ix (do_slot (pv 4)) (do_slot (pv 8))) (da_cons (de_ix (do_slot (pv 4)) (do_slot (pv 9))) (da_cons (de_ix (do_slot (pv 5)) (do_slot (pv 8))) (da_cons (de_ix (do_slot (pv 5)) (do_slot (pv 9))) da_nil))))))))) (dss_one (ds_ret de_bl)) dss_nil) (dss_cons (ds_asg (de_ix (do_val (de_ix (do_val (de_ix (do_val (de_ix (do_slot (pv 2)) (do_slot (pv 8)))) (do_val de_int))) (do_val de_int))) (do_val de_int)) (dg_name (i := 10) nd_law_right (by rfl) (by first | exact .inl rfl | exact .inr rfl))) (dss_cons (ds_setLc (i := 11) (own := [("_law_at", 14)]) (by rfl) nd_law_right (by rfl) (by rfl) (sw_true (by rfl) (by rfl) (by rfl) (by decide +kernel)) (DI.fix (di_range1 (by rfl) f_range (dao_cons (do_val (de_callB call_len cd_len (by rfl) f_len bt_len (dao_cons (do_slot (pv 1)) dao_nil))) dao_nil))) (blkOk_by (own := [("_law_at", 14)]) (N := N_law_right) (sc := defScope st_law_right) (by decide +kernel)) (fun _ _ _ _ _ => (dg_name (i := 14) nd_law_right (by rfl) (by first | exact .inl rfl | exact .inr rfl))) (fun _ _ _ _ _ => (dts_one (dt_cmp (op_eqD hr.units) od_eq (do_val (de_op op_mod od_mod (do_slot (pv 10)) (do_val (de_ix (do_slot (pv 1)) (do_slot (pv 14)))))) (do_val de_int) (nomark _)))) (fun _ _ _ _ _ => (de_var (pv 14)))) (dss_cons (ds_asg (de_op or_addD od_add (do_val (de_callTy (call_int1.or call_int_str) cd_int (by rfl) f_int bt_int (dao_cons (do_val (de_cmp (op_eqD hr.units) od_eq (do_val (de_callB call_len cd_len (by rfl) f_len bt_len (dao_cons (do_slot (pv 11)) dao_nil))) (do_val de_int) (nomark _))) dao_nil))) (do_val de_int)) (dg_name (i := 12) nd_law_right (by rfl) (by first | exact .inl rfl | exact .inr rfl))) (dss_cons (ds_asg (de_callB ((call_min2 (by rfl)).or (cr_min (by rfl))) cd_min (by rfl) f_min bt_min (dao_cons (do_val (de_new (df_lc (own := [("_law_at", 14)]) (by rfl) nd_law_right (DI.fix (di_seq (de_var (pv 11)))) (blkOk_by (own := [("_law_at", 14)]) (N := N_law_right) (sc := defScope st_law_right) (by decide +kernel)) (fun _ _ _ _ _ => (dg_name (i := 14) nd_law_right (by rfl) (by first | exact .inl rfl | exact .inr rfl))) (fun _ _ _ _ _ => dts_nil) (fun _ _ _ _ _ => (de_op op_fdivW od_fdiv (do_val (de_ix (do_val (de_ix (do_slot (pv 5)) (do_slot (pv 9)))) (do_slot (pv 14)))) (do_slot (pv 12))))))) dao_nil)) (dg_name (i := 13) nd_law_right (by rfl) (by first | exact .inl rfl | exact .inr rfl))) (dss_cons (ds_if (DW.dt (dw_or (dt_cmp (op_neD hr.units) od_ne (do_val (de_app D_exponent_in (hr.mono (by decide)) (by rfl) (da_cons (de_ix (do_slot (pv 4)) (do_slot (pv 9))) (da_cons (de_var (pv 10)) da_nil)))) (do_slot (pv 13)) (nomark _)) (dw_or1 (dt_cmp (op_neD hr.units) od_ne (do_val (de_ownIn o_contains (hr.mono (by decide)) (de_var (pv 10)) (do_val (de_ix (do_slot (pv 4)) (do_slot (pv 9)))))) (do_val (de_cmp op_gt od_gt (do_slot (pv 13)) (do_val de_int) (nomark _))) (nomark _))))) (dss_one (ds_ret de_bl)) dss_nil) (dss_cons (ds_if (dt_not (dt_tru (do_val (de_app D_law_is (hr.mono (by decide)) (by rfl) (da_cons (de_app D_root (hr.mono (by decide)) (by rfl) (da_cons (de_ownB o_mul (hr.mono (by decide)) (do_val (de_ix (do_slot (pv 4)) (do_slot (pv 8)))) (do_val (de_ix (do_slot (pv 4)) (do_slot (pv 8))))) (da_cons de_int da_nil))) (da_cons (de_var (pv 1)) (da_cons (de_ix (do_slot (pv 5)) (do_slot (pv 8))) da_nil))))))) (dss_one (ds_ret de_bl)) dss_nil) (dss_one (ds_if (dt_cmp (op_neD hr.units) od_ne (do_val (de_op op_mod od_mod (do_val (de_ix (do_val (de_app D_greatest_root (hr.mono (by decide)) (by rfl) (da_cons (de_ownB o_mul (hr.mono (by decide)) (do_val (de_ix (do_slot (pv 4)) (do_slot (pv 8)))) (do_val (de_ix (do_slot (pv 4)) (do_slot (pv 8))))) da_nil))) (do_val de_int))) (do_val de_int))) (do_val de_int) (nomark _)) (dss_one (ds_ret de_bl)) dss_nil))))))))))) (dss_one (ds_ret (de_app D_law_base_right (hr.mono (by decide)) (by rfl) (da_cons (de_var (pv 1)) (da_cons (de_app D_coprime_base (hr.mono (by decide)) (by rfl) (da_cons (de_ix (do_slot (pv 4)) (do_val de_int)) (da_cons (de_ix (do_slot (pv 4)) (do_val de_int)) (da_cons (de_ix (do_slot (pv 4)) (do_val de_int)) da_nil)))) (da_cons (de_var (pv 5)) da_nil))))))))))
theorem ok_law_right (D_law_base_right : Df P w K mg base ca 1 "_law_base_right" sp_law_base_right) (D_law_draw : Df P w K mg base ca 1 "_law_draw" sp_law_draw) (D_law_great : Df P w K mg base ca 1 "_law_great" sp_law_great) (D_law_is : Df P w K mg base ca 2 "_law_is" sp_law_is) (D_law_mixed : Df P w K mg base ca 2 "_law_mixed" sp_law_mixed) (D_law_num17 : Df P w K mg base ca 6 "_law_number" sp_law_num17) (D_law_pair_right : Df P w K mg base ca 8 "_law_pair_right" sp_law_pair_right) (D_law_written : Df P w K mg base ca 2 "_law_written" sp_law_written) (D_coprime_base : Df P w K mg base ca 4 "coprime_base" sp_coprime_base) (D_exponent_in : Df P w K mg base ca 4 "exponent_in" sp_exponent_in) (D_greatest_root : Df P w K mg base ca 5 "greatest_root" sp_greatest_root) (D_root : Df P w K mg base ca 5 "root" sp_root) (f_int : mg "int" = none) (f_len : mg "len" = none) (f_min : mg "min" = none) (f_range : mg "range" = none) (o_contains : OpIn P w K mg base ca 6 "Number" sp_contains) (o_mul : OpB P w K mg base ca 6 "Number" .Mult sp_mul) {f : Addr} {fd : FuncData} (F : FnP K "_law_right" "_law_right" st_law_right f fd) : FnR P w K mg base CX0 9 f (LSp K ca sp_law_right) :=
  fr_of F sc_law_right (F.bindsN fun _ _ _ _ _ _ us hl => match us, hl with | [_], _ => rfl) (fun ds Q h => by unfold sp_law_right at h; (repeat obtain ⟨_, h⟩ := h); subst_vars; rfl) (by decide) (fun cdv A outer s H E hr => dd_law_right D_law_base_right D_law_draw D_law_great D_law_is D_law_mixed D_law_num17 D_law_pair_right D_law_written D_coprime_base D_exponent_in D_greatest_root D_root f_int f_len f_min f_range o_contains o_mul hr) does_law_right
/-! _law_source -/
abbrev st_law_source : Stmt := top 47
abbrev N_law_source : List Str := ["_law_cell_here", "_law_digits"]
abbrev P_law_source : List Str := ["_law_cell_here"]
theorem nd_law_source : N_law_source.Nodup := by decide +kernel
theorem sc_law_source : FnScope N_law_source P_law_source (defScope st_law_source) := ⟨rfl, rfl, rfl, nd_law_source, rfl, by decide +kernel, by decide +kernel⟩
theorem dd_law_source (f_abs : mg "abs" = none) {f : Addr} {cdv : Value} {A : Around} {outer : List Env} {s : Shared} {H : Hp} {E : XK} (hr : Room 0 (A.deeper (PyProof.Rows.envOfC "_law_source" (defScope st_law_source) s.heap.objs.size f cdv))) :
    DSs (cxOf CX0 P w K mg base N_law_source "_law_source" (defScope st_law_source) f cdv A outer s H E) ca H (defBody st_law_source) (rd_law_source) :=
  (dss_cons (ds_asg (de_if (DW.dt (dw_or (dt_cmp op_lt od_lt (do_slot (pv 0)) (do_val de_int) (nomark _)) (dw_or1 (dt_cmp op_ge od_ge (do_slot (pv 0)) (do_val (de_op op_pow od_pow (do_val de_int) (do_val de_int))) (nomark _))))) (de_callB call_abs cd_abs (by rfl) f_abs bt_abs (dao_cons (do_slot (pv 0)) dao_nil)) de_int) (dg_name (i := 1) nd_law_source (by rfl) (by first | exact .inl rfl | exact .inr rfl))) (dss_one (ds_ret (de_new (df_lst (da_cons (de_var (pv 1)) (da_cons (de_op or_addD od_add (do_val (de_op op_mulD od_mul (do_val (de_op op_mod od_mod (do_slot (pv 0)) (do_val de_int))) (do_val de_int))) (do_val de_int)) (da_cons de_int da_nil))))))))
theorem ok_law_source (f_abs : mg "abs" = none) {f : Addr} {fd : FuncData} (F : FnP K "_law_source" "_law_source" st_law_source f fd) : FnR P w K mg base CX0 1 f (LSp K ca sp_law_source) :=
  source_of (fr_of F sc_law_source (F.bindsN fun _ _ _ _ _ _ us hl => match us, hl with | [_], _ => rfl) (fun ds Q h => by unfold sp_law_sourceL at h; (repeat obtain ⟨_, h⟩ := h); subst_vars; rfl) (by decide) (fun cdv A outer s H E hr => dd_law_source f_abs hr) does_law_source)
/-! Number.of -/
abbrev st_Number_of : Stmt := (clsBody (top 30)).getD 1 (.Pass ⟨0, 0, 0, 0⟩)
abbrev N_Number_of : List Str := ["cls", "value"]
abbrev P_Number_of : List Str := ["cls", "value"]
theorem nd_Number_of : N_Number_of.Nodup := by decide +kernel
theorem sc_Number_of : FnScope N_Number_of P_Number_of (defScope st_Number_of) := ⟨rfl, rfl, rfl, nd_Number_of, rfl, by decide +kernel, by decide +kernel⟩
theorem dd_Number_of (D_is_integer : Df P w K mg base ca 1 "is_integer" sp_is_integer) (m_MAX_BASE : ∃ u, mg "MAX_BASE" = some u ∧ RelV (.int 100000000000000000000) u) (k_Number : Cal P w K mg base ca 4 (ca "Number") sp_Number) {f : Addr} {cdv : Value} {A : Around} {outer : List Env} {s : Shared} {H : Hp} {E : XK} (hr : Room 4 (A.deeper (PyProof.Rows.envOfC "Number.of" (defScope st_Number_of) s.heap.objs.size f cdv))) :
    DSs (cxOf CX0 P w K mg base N_Number_of "Number.of" (defScope st_Number_of) f cdv A outer s H E) ca H (defBody st_Number_of) (rd_Number_of) :=
  (dss_cons (ds_if (dt_not (dt_tru (do_val (de_app D_is_integer (hr.mono (by decide)) (by rfl) (da_cons (de_var (pv 1)) (da_cons de_int (da_cons (de_con (by rfl) m_MAX_BASE (v := .int 100000000000000000000) (by intro _ _; rfl)) da_nil))))))) (dss_one ds_never) dss_nil) (dss_one (ds_ret (de_if (dt_cmp op_gt od_gt (do_slot (pv 1)) (do_val de_int) (nomark _)) (de_appV k_Number (hr.mono (by decide)) (pv 0) (da_cons (de_tup (da_cons (de_var (pv 1)) (da_cons de_int da_nil))) da_nil)) (de_appV0 k_Number (hr.mono (by decide)) (pv 0))))))
theorem ok_Number_of (D_is_integer : Df P w K mg base ca 1 "is_integer" sp_is_integer) (m_MAX_BASE : ∃ u, mg "MAX_BASE" = some u ∧ RelV (.int 100000000000000000000) u) (k_Number : Cal P w K mg base ca 4 (ca "Number") sp_Number) {f : Addr} {fd : FuncData} (F : FnP K "of" "Number.of" st_Number_of f fd) : FnR P w K mg base CX0 5 f (LSp K ca sp_Number_of) :=
  fr_of F sc_Number_of (F.bindsN fun _ _ _ _ _ _ us hl => match us, hl with | [_, _], _ => rfl) (fun ds Q h => by unfold sp_Number_of at h; (repeat obtain ⟨_, h⟩ := h); subst_vars; rfl) (by decide) (fun cdv A outer s H E hr => dd_Number_of D_is_integer m_MAX_BASE k_Number hr) does_Number_of
/-! law -/
abbrev st_law : Stmt := top 58
abbrev N_law : List Str := ["_law_script", "_law_great_here", "_law_one", "_law_other", "_law_told", "_law_k"]
abbrev P_law : List Str := ["_law_script"]
theorem nd_law : N_law.Nodup := by decide +kernel
theorem sc_law : FnScope N_law P_law (defScope st_law) := ⟨rfl, rfl, rfl, nd_law, rfl, by decide +kernel, by decide +kernel⟩
theorem dd_law (D_law_base_right : Df P w K mg base ca 1 "_law_base_right" sp_law_base_right) (D_law_cell : Df P w K mg base ca 1 "_law_cell" sp_law_cell) (D_law_great : Df P w K mg base ca 1 "_law_great" sp_law_great) (D_law_is : Df P w K mg base ca 2 "_law_is" sp_law_is) (D_law_right : Df P w K mg base ca 9 "_law_right" sp_law_right) (D_law_source : Df P w K mg base ca 1 "_law_source" sp_law_source) (D_coprime_base : Df P w K mg base ca 4 "coprime_base" sp_coprime_base) (c_Number : mg "Number" = some (.ref (ca "Number"))) (q_of : CMt P w K mg base ca 5 "Number" "of" sp_Number_of) (f_all : mg "all" = none) (f_len : mg "len" = none) (f_max : mg "max" = none) (f_min : mg "min" = none) (f_range : mg "range" = none) (o_and : OpB P w K mg base ca 6 "Number" .BitAnd sp_and) {f : Addr} {cdv : Value} {A : Around} {outer : List Env} {s : Shared} {H : Hp} {E : XK} (hr : Room 9 (A.deeper (PyProof.Rows.envOfC "law" (defScope st_law) s.heap.objs.size f cdv))) :
    DSs (cxOf CX0 P w K mg base N_law "law" (defScope st_law) f cdv A outer s H E) ca H (defBody st_law) (rd_law) :=
  (dss_cons (ds_asg (de_app0 D_law_great (hr.mono (by decide)) (by rfl)) (dg_name (i := 1) nd_law (by rfl) (by first | exact .inl rfl | exact .inr rfl))) (dss_cons (ds_asg (de_cmeth q_of (hr.mono (by decide)) (by rfl) c_Number (da_cons (de_op op_mulD od_mul (do_val (de_ix (do_slot (pv 1)) (do_val de_int))) (do_val (de_ix (do_slot (pv 1)) (do_val de_int)))) da_nil)) (dg_name (i := 2) nd_law (by rfl) (by first | exact .inl rfl | exact .inr rfl))) (dss_cons (ds_asg (de_cmeth q_of (hr.mono (by decide)) (by rfl) c_Number (da_cons (de_op op_mulD od_mul (do_val (de_ix (do_slot (pv 1)) (do_val de_int))) (do_val (de_ix (do_slot (pv 1)) (do_val de_int)))) da_nil)) (dg_name (i := 3) nd_law (by rfl) (by first | exact .inl rfl | exact .inr rfl))) (dss_cons (ds_if (dt_not (dt_tru (do_val (de_app D_law_is (hr.mono (by decide)) (by rfl) (da_cons (de_ownB o_and (hr.mono (by decide)) (do_slot (pv 2)) (do_slot (pv 3))) (da_cons (de_var (pv 1)) (da_cons (de_new (df_lst (da_cons de_int (da_cons de_int (da_cons de_int (da_cons de_int (da_cons de_int (da_cons de_int (da_cons de_int da_nil))))))))) da_nil))))))) (dss_one (ds_ret de_bl)) dss_nil) (dss_cons (ds_if (dt_cmp (op_neD hr.units) od_ne (do_val (de_app D_coprime_base (hr.mono (by decide)) (by rfl) (da_cons (de_var (pv 2)) (da_cons (de_var (pv 3)) da_nil)))) (do_val (de_tup (da_cons (de_ix (do_slot (pv 1)) (do_val de_int)) (da_cons (de_ix (do_slot (pv 1)) (do_val de_int)) (da_cons (de_ix (do_slot (pv 1)) (do_val de_int)) da_nil))))) (nomark _)) (dss_one (ds_ret de_bl)) dss_nil) (dss_cons (ds_asg (de_app D_coprime_base (hr.mono (by decide)) (by rfl) (da_cons (de_var (pv 2)) (da_cons (de_cmeth q_of (hr.mono (by decide)) (by rfl) c_Number (da_cons (de_ix (do_slot (pv 1)) (do_val de_int)) da_nil)) da_nil))) (dg_name (i := 4) nd_law (by rfl) (by first | exact .inl rfl | exact .inr rfl))) (dss_cons (ds_if (dt_not (dt_tru (do_val (de_app D_law_base_right (hr.mono (by decide)) (by rfl) (da_cons (de_var (pv 1)) (da_cons (de_var (pv 4)) (da_cons (de_new (df_lst (da_cons (de_new (df_lst (da_cons de_int (da_cons de_int (da_cons de_int (da_cons de_int (da_cons de_int (da_cons de_int (da_cons de_int da_nil))))))))) (da_cons (de_new (df_cat (do_val (de_new (df_lst (da_cons de_int da_nil)))) (do_val (de_new (df_rep (do_val (de_new (df_lst (da_cons de_int da_nil)))) (do_val de_int)))))) da_nil)))) da_nil))))))) (dss_one (ds_ret de_bl)) dss_nil) (dss_one (ds_ret (de_callB (cr_all (by rfl)) cd_all (by rfl) f_all bt_all (dao_cons (do_val (de_new (df_lc (own := [("_law_k", 5)]) (by rfl) nd_law (DI.fix (di_range1 (by rfl) f_range (dao_cons (do_val (de_callB ((call_max2 (by rfl)).or (cr_max (by rfl))) cd_max (by rfl) f_max bt_max (dao_cons (do_val de_int) (dao_cons (do_val (de_callB ((call_min2 (by rfl)).or (cr_min (by rfl))) cd_min (by rfl) f_min bt_min (dao_cons (do_val (de_callB call_len cd_len (by rfl) f_len bt_len (dao_cons (do_slot (pv 0)) dao_nil))) (dao_cons (do_val de_int) dao_nil)))) dao_nil)))) dao_nil))) (blkOk_by (own := [("_law_k", 5)]) (N := N_law) (sc := defScope st_law) (by decide +kernel)) (fun _ _ _ _ _ => (dg_name (i := 5) nd_law (by rfl) (by first | exact .inl rfl | exact .inr rfl))) (fun _ _ _ _ _ => dts_nil) (fun _ _ _ _ _ => (de_app D_law_right (hr.mono (by decide)) (by rfl) (da_cons (de_app D_law_source (hr.mono (by decide)) (by rfl) (da_cons (de_app D_law_cell (hr.mono (by decide)) (by rfl) (da_cons (de_var (pv 0)) (da_cons (de_var (pv 5)) da_nil))) da_nil)) da_nil)))))) dao_nil)))))))))))
theorem ok_law (D_law_base_right : Df P w K mg base ca 1 "_law_base_right" sp_law_base_right) (D_law_cell : Df P w K mg base ca 1 "_law_cell" sp_law_cell) (D_law_great : Df P w K mg base ca 1 "_law_great" sp_law_great) (D_law_is : Df P w K mg base ca 2 "_law_is" sp_law_is) (D_law_right : Df P w K mg base ca 9 "_law_right" sp_law_right) (D_law_source : Df P w K mg base ca 1 "_law_source" sp_law_source) (D_coprime_base : Df P w K mg base ca 4 "coprime_base" sp_coprime_base) (c_Number : mg "Number" = some (.ref (ca "Number"))) (q_of : CMt P w K mg base ca 5 "Number" "of" sp_Number_of) (f_all : mg "all" = none) (f_len : mg "len" = none) (f_max : mg "max" = none) (f_min : mg "min" = none) (f_range : mg "range" = none) (o_and : OpB P w K mg base ca 6 "Number" .BitAnd sp_and) {f : Addr} {fd : FuncData} (F : FnP K "law" "law" st_law f fd) : FnOk P w K mg base CX0 10 f fd P_law (LSp K ca sp_law) :=
  fo_of F sc_law (fun ds Q h => by unfold sp_law at h; (repeat obtain ⟨_, h⟩ := h); subst_vars; rfl) (by decide) (fun cdv A outer s H E hr => dd_law D_law_base_right D_law_cell D_law_great D_law_is D_law_right D_law_source D_coprime_base c_Number q_of f_all f_len f_max f_min f_range o_and hr) does_law
end
/-! the head -/
def d_law_base_right : He.DefD := ⟨("_law_base_right", none), "_law_base_right", "_law_base_right", defArgs st_law_base_right, defBody st_law_base_right, defScope st_law_base_right, [], []⟩
def d_law_cell : He.DefD := ⟨("_law_cell", none), "_law_cell", "_law_cell", defArgs st_law_cell, defBody st_law_cell, defScope st_law_cell, [], []⟩
def d_law_great : He.DefD := ⟨("_law_great", none), "_law_great", "_law_great", defArgs st_law_great, defBody st_law_great, defScope st_law_great, [], []⟩
def d_law_whole : He.DefD := ⟨("_law_whole", none), "_law_whole", "_law_whole", defArgs st_law_whole, defBody st_law_whole, defScope st_law_whole, [], []⟩
def d_law_is : He.DefD := ⟨("_law_is", none), "_law_is", "_law_is", defArgs st_law_is, defBody st_law_is, defScope st_law_is, [], []⟩
def d_law_draw : He.DefD := ⟨("_law_draw", none), "_law_draw", "_law_draw", defArgs st_law_draw, defBody st_law_draw, defScope st_law_draw, [], []⟩
def d_law_mixed : He.DefD := ⟨("_law_mixed", none), "_law_mixed", "_law_mixed", defArgs st_law_mixed, defBody st_law_mixed, defScope st_law_mixed, [], []⟩
def d_integer_in : He.DefD := ⟨("integer_in", none), "integer_in", "integer_in", defArgs st_integer_in, defBody st_integer_in, defScope st_integer_in, [], []⟩
def d_pair_in : He.DefD := ⟨("pair_in", none), "pair_in", "pair_in", defArgs st_pair_in, defBody st_pair_in, defScope st_pair_in, [], []⟩
def d_is_integer : He.DefD := ⟨("is_integer", none), "is_integer", "is_integer", defArgs st_is_integer, defBody st_is_integer, defScope st_is_integer, [], []⟩
def d_wrong_pair : He.DefD := ⟨("wrong_pair", none), "wrong_pair", "wrong_pair", defArgs st_wrong_pair, defBody st_wrong_pair, defScope st_wrong_pair, [], []⟩
def d_Number_init : He.DefD := ⟨("Number", some "__init__"), "__init__", "Number.__init__", defArgs st_Number_init, defBody st_Number_init, defScope st_Number_init, [], []⟩
def d_Number_read : He.DefD := ⟨("Number", some "read"), "read", "Number.read", defArgs st_Number_read, defBody st_Number_read, defScope st_Number_read, [], []⟩
def d_law_num17 : He.DefD := ⟨("_law_number", none), "_law_number", "_law_number", defArgs st_law_num17, defBody st_law_num17, defScope st_law_num17, [], []⟩
def d_check_number : He.DefD := ⟨("check_number", none), "check_number", "check_number", defArgs st_check_number, defBody st_check_number, defScope st_check_number, [], []⟩
def d_common_divisor : He.DefD := ⟨("common_divisor", none), "common_divisor", "common_divisor", defArgs st_common_divisor, defBody st_common_divisor, defScope st_common_divisor, [], []⟩
def d_refined : He.DefD := ⟨("refined", none), "refined", "refined", defArgs st_refined, defBody st_refined, defScope st_refined, [], []⟩
def d_common_base : He.DefD := ⟨("common_base", none), "common_base", "common_base", defArgs st_common_base, defBody st_common_base, defScope st_common_base, [], []⟩
def d_times_in : He.DefD := ⟨("times_in", none), "times_in", "times_in", defArgs st_times_in, defBody st_times_in, defScope st_times_in, [], []⟩
def d_exponent_over : He.DefD := ⟨("exponent_over", none), "exponent_over", "exponent_over", defArgs st_exponent_over, defBody st_exponent_over, defScope st_exponent_over, [], []⟩
def d_exponents_over : He.DefD := ⟨("exponents_over", none), "exponents_over", "exponents_over", defArgs st_exponents_over, defBody st_exponents_over, defScope st_exponents_over, [], []⟩
def d_compared : He.DefD := ⟨("compared", none), "compared", "compared", defArgs st_compared, defBody st_compared, defScope st_compared, [], []⟩
def d_divides : He.DefD := ⟨("divides", none), "divides", "divides", defArgs st_divides, defBody st_divides, defScope st_divides, [], []⟩
def d_check_numbers : He.DefD := ⟨("check_numbers", none), "check_numbers", "check_numbers", defArgs st_check_numbers, defBody st_check_numbers, defScope st_check_numbers, [], []⟩
def d_number_with : He.DefD := ⟨("number_with", none), "number_with", "number_with", defArgs st_number_with, defBody st_number_with, defScope st_number_with, [], []⟩
def d_Number_or : He.DefD := ⟨("Number", some "__or__"), "__or__", "Number.__or__", defArgs st_Number_or, defBody st_Number_or, defScope st_Number_or, [], []⟩
def d_meet : He.DefD := ⟨("meet", none), "meet", "meet", defArgs st_meet, defBody st_meet, defScope st_meet, [], []⟩
def d_parted : He.DefD := ⟨("parted", none), "parted", "parted", defArgs st_parted, defBody st_parted, defScope st_parted, [], []⟩
def d_Number_and : He.DefD := ⟨("Number", some "__and__"), "__and__", "Number.__and__", defArgs st_Number_and, defBody st_Number_and, defScope st_Number_and, [], []⟩
def d_share : He.DefD := ⟨("share", none), "share", "share", defArgs st_share, defBody st_share, defScope st_share, [], []⟩
def d_Number_eq : He.DefD := ⟨("Number", some "__eq__"), "__eq__", "Number.__eq__", defArgs st_Number_eq, defBody st_Number_eq, defScope st_Number_eq, [], []⟩
def d_Number_floordiv : He.DefD := ⟨("Number", some "__floordiv__"), "__floordiv__", "Number.__floordiv__", defArgs st_Number_floordiv, defBody st_Number_floordiv, defScope st_Number_floordiv, [], []⟩
def d_Number_mul : He.DefD := ⟨("Number", some "__mul__"), "__mul__", "Number.__mul__", defArgs st_Number_mul, defBody st_Number_mul, defScope st_Number_mul, [], []⟩
def d_law_pair_right : He.DefD := ⟨("_law_pair_right", none), "_law_pair_right", "_law_pair_right", defArgs st_law_pair_right, defBody st_law_pair_right, defScope st_law_pair_right, [], []⟩
def d_law_written : He.DefD := ⟨("_law_written", none), "_law_written", "_law_written", defArgs st_law_written, defBody st_law_written, defScope st_law_written, [], []⟩
def d_coprime_base : He.DefD := ⟨("coprime_base", none), "coprime_base", "coprime_base", defArgs st_coprime_base, defBody st_coprime_base, defScope st_coprime_base, [], []⟩
def d_exponent_in : He.DefD := ⟨("exponent_in", none), "exponent_in", "exponent_in", defArgs st_exponent_in, defBody st_exponent_in, defScope st_exponent_in, [], []⟩
def d_powered : He.DefD := ⟨("powered", none), "powered", "powered", defArgs st_powered, defBody st_powered, defScope st_powered, [], []⟩
def d_integer_root : He.DefD := ⟨("integer_root", none), "integer_root", "integer_root", defArgs st_integer_root, defBody st_integer_root, defScope st_integer_root, [], []⟩
def d_simplest : He.DefD := ⟨("simplest", none), "simplest", "simplest", defArgs st_simplest, defBody st_simplest, defScope st_simplest, [], []⟩
def d_simple_powers : He.DefD := ⟨("simple_powers", none), "simple_powers", "simple_powers", defArgs st_simple_powers, defBody st_simple_powers, defScope st_simple_powers, [], []⟩
def d_greatest_root : He.DefD := ⟨("greatest_root", none), "greatest_root", "greatest_root", defArgs st_greatest_root, defBody st_greatest_root, defScope st_greatest_root, [], []⟩
def d_root : He.DefD := ⟨("root", none), "root", "root", defArgs st_root, defBody st_root, defScope st_root, [], []⟩
def d_Number_contains : He.DefD := ⟨("Number", some "__contains__"), "__contains__", "Number.__contains__", defArgs st_Number_contains, defBody st_Number_contains, defScope st_Number_contains, [], []⟩
def d_law_right : He.DefD := ⟨("_law_right", none), "_law_right", "_law_right", defArgs st_law_right, defBody st_law_right, defScope st_law_right, [], []⟩
def d_law_source : He.DefD := ⟨("_law_source", none), "_law_source", "_law_source", defArgs st_law_source, defBody st_law_source, defScope st_law_source, [], []⟩
def d_Number_of : He.DefD := ⟨("Number", some "of"), "of", "Number.of", defArgs st_Number_of, defBody st_Number_of, defScope st_Number_of, [], []⟩
def d_law : He.DefD := ⟨("law", none), "law", "law", defArgs st_law, defBody st_law, defScope st_law, [], []⟩
def fnL_0 : List He.DefD := [d_law_base_right, d_law_cell, d_law_great, d_law_whole, d_law_is, d_law_draw, d_law_mixed, d_integer_in, d_pair_in, d_is_integer, d_wrong_pair, d_Number_init, d_law_num17, d_check_number, d_common_divisor, d_refined, d_common_base, d_times_in, d_exponent_over, d_exponents_over, d_compared, d_divides, d_check_numbers, d_number_with, d_Number_or, d_meet, d_parted, d_Number_and]
def fnL_1 : List He.DefD := [d_share, d_Number_eq, d_Number_floordiv, d_Number_mul, d_law_pair_right, d_law_written, d_coprime_base, d_exponent_in, d_powered, d_integer_root, d_simplest, d_simple_powers, d_greatest_root, d_root, d_Number_contains, d_law_right, d_law_source, d_law]
def fnL : List He.DefD := fnL_0 ++ fnL_1
def pxL : List (Path × He.DefD) := [(fun K => cmG K (He.ga K "Number") "read", d_Number_read), (fun K => cmG K (He.ga K "Number") "of", d_Number_of)]
def faL_0 : List He.Fa := [.glo "_law_base_right", .glo "_law_cell", .glo "_law_great", .glo "_law_whole", .glo "_law_is", .glo "_law_draw", .glo "_law_mixed", .glo "integer_in", .glo "pair_in", .glo "is_integer", .glo "wrong_pair", .glo "_law_number", .glo "check_number", .glo "common_divisor", .glo "refined", .glo "common_base", .glo "times_in", .glo "exponent_over", .glo "exponents_over", .glo "compared", .glo "divides", .glo "check_numbers", .glo "number_with", .glo "meet", .glo "parted", .glo "share", .glo "_law_pair_right", .glo "_law_written"]
def faL_1 : List He.Fa := [.glo "coprime_base", .glo "exponent_in", .glo "powered", .glo "integer_root", .glo "simplest", .glo "simple_powers", .glo "greatest_root", .glo "root", .glo "_law_right", .glo "_law_source", .glo "law", .glo "Number", .cls "Number", .mkr "Number", .free "len", .free "list", .free "max", .free "range", .free "set", .free "sorted", .free "bool", .free "int", .free "isinstance", .noat "Number" "powers", .free "enumerate", .free "tuple", .free "divmod", .str "DIGITS" "0123456789"]
def faL_2 : List He.Fa := [.int "LONGEST_INTEGER" 4000, .free "all", .int "MAX_BASE" 100000000000000000000, .free "str", .free "sum", .free "zip", .free "min", .free "abs", .meth "Number" "__or__", .meth "Number" "__and__", .meth "Number" "__eq__", .meth "Number" "__floordiv__", .meth "Number" "__mul__", .meth "Number" "__contains__"]
def faL : List He.Fa := faL_0 ++ faL_1 ++ faL_2
def exL (K : PySem.W.Frag) : Bool := clsiB K (He.ga K "Number") && neB K (He.ga K "Number") && cmB K (He.ga K "Number") "read" && cmB K (He.ga K "Number") "of"
def looseL_0 : List Str := ["__name__", "InputError", "InvalidPowers", "InvalidValue", "InvalidText", "InvalidNumber", "InvalidNumbers", "InvalidTimes", "InvalidBase", "StateError", "NotDivisible", "NoRoot", "MAX_BASE", "__name__", "common_divisor", "refined", "times_in", "exponent_over", "exponents_over", "__name__", "is_integer", "__name__", "DIGITS", "LONGEST_INTEGER", "wrong_pair", "integer_in", "pair_in", "common_base"]
def looseL_1 : List Str := ["compared", "number_with", "Number", "check_number", "check_numbers", "divides", "share", "meet", "powered", "exponent_in", "parted", "integer_root", "simplest", "simple_powers", "root", "greatest_root", "coprime_base", "__name__", "_law_cell", "_law_source", "_law_draw", "_law_mixed", "_law_great", "_law_whole", "_law_is", "_law_written", "_law_number", "_law_pair_right"]
def looseL_2 : List Str := ["_law_base_right", "_law_right"]
def looseL : List Str := looseL_0 ++ looseL_1 ++ looseL_2
abbrev RR : PySem.W.OpenRow := PySem.W.OpenLaw.row PySem.Challenge.rw_sharetable_k17_whole_products_of_great_p
abbrev hkL : PySem.W.Hook := hookZ 5 faL fnL exL pxL
def obL (s : PySem.W.SharedT) : AlZ := obsZG 5 faL fnL exL pxL (HandSHeadRun.getT s)
theorem obL_eq (s : PySem.W.SharedT) : obL s = hkL.obs s.abs := obsZG_eq (HandSHeadRun.getT_eq s)
theorem runL (w : World) : HandSHeadRun.RunEq RR (PySem.W.view RR.prog [58]) hkL obL 20000 looseL w := by
  intro os
  kernel_rfl
theorem facts {P : Program} {w : World} {K : PySem.W.Frag} {h : Heap} {mg : Str → Option Value} {fl : Addr} (X : K.In h) (G : h.Ns mainGlobals mg) (hfa : mg ("law" : Str) = some (.ref fl)) (c : SaysZ faL fnL exL pxL K) :
    ∃ fd : FuncData, (∀ (s : Shared) (v : Value), BindsTo s fd ⟨[v], []⟩ [("_law_script", v)]) ∧ ∀ base : Heap, K.In base → base.Ns mainGlobals mg → FnOk P w K mg base CX0 10 fl fd ["_law_script"] (LSp K (fun _ => He.ga K "Number") sp_law) := by
  have cNumber : Cls K (He.ga K "Number") := He.cls_ok (c.d.fact 40 (f := He.Fa.cls "Number") rfl)
  obtain ⟨ex1, ex2⟩ := He.ba c.ex
  have exA : exL K = true := c.ex
  have hI : ClsI K ((fun _ => He.ga K "Number") ("Number" : Str)) := clsiB_ok cNumber (by
    have z := exA
    unfold exL at z
    simp only [Bool.and_eq_true] at z
    exact z.1.1.1)
  have hIs : ∀ x : Str, ClsI K ((fun _ => He.ga K "Number") x) := fun _ => hI
  have hne : neB K (He.ga K "Number") = true := by
    have z := exA
    unfold exL at z
    simp only [Bool.and_eq_true] at z
    exact z.1.1.2
  obtain ⟨self1, ne0⟩ := He.ba hne
  have hcm_Number_read : cmB K (He.ga K "Number") "read" = true := by
    have z := exA
    unfold exL at z
    simp only [Bool.and_eq_true] at z
    exact z.1.2
  have hcm_Number_of : cmB K (He.ga K "Number") "of" = true := by
    have z := exA
    unfold exL at z
    simp only [Bool.and_eq_true] at z
    exact z.2
  have f_len : mg "len" = none := He.free_ok X G (c.d.fact 42 (f := He.Fa.free "len") rfl)
  have f_list : mg "list" = none := He.free_ok X G (c.d.fact 43 (f := He.Fa.free "list") rfl)
  have f_max : mg "max" = none := He.free_ok X G (c.d.fact 44 (f := He.Fa.free "max") rfl)
  have f_range : mg "range" = none := He.free_ok X G (c.d.fact 45 (f := He.Fa.free "range") rfl)
  have f_set : mg "set" = none := He.free_ok X G (c.d.fact 46 (f := He.Fa.free "set") rfl)
  have f_sorted : mg "sorted" = none := He.free_ok X G (c.d.fact 47 (f := He.Fa.free "sorted") rfl)
  have f_bool : mg "bool" = none := He.free_ok X G (c.d.fact 48 (f := He.Fa.free "bool") rfl)
  have f_int : mg "int" = none := He.free_ok X G (c.d.fact 49 (f := He.Fa.free "int") rfl)
  have f_isinstance : mg "isinstance" = none := He.free_ok X G (c.d.fact 50 (f := He.Fa.free "isinstance") rfl)
  have c_Number : mg "Number" = some (.ref ((fun _ => He.ga K "Number") ("Number" : Str))) := He.glo_ok X G (c.d.fact 39 (f := He.Fa.glo "Number") rfl)
  have n_powers : NoAttr K ((fun _ => He.ga K "Number") ("Number" : Str)) "powers" := He.noat_ok (c.d.fact 51 (f := He.Fa.noat "Number" "powers") rfl)
  have f_enumerate : mg "enumerate" = none := He.free_ok X G (c.d.fact 52 (f := He.Fa.free "enumerate") rfl)
  have f_tuple : mg "tuple" = none := He.free_ok X G (c.d.fact 53 (f := He.Fa.free "tuple") rfl)
  have f_dm : mg "divmod" = none := He.free_ok X G (c.d.fact 54 (f := He.Fa.free "divmod") rfl)
  have m_DIGITS : ∃ u, mg "DIGITS" = some u ∧ RelV (.str "0123456789") u := let ⟨t, e⟩ := He.str_ok X G (c.d.fact 55 (f := He.Fa.str "DIGITS" "0123456789") rfl); ⟨_, e, t, rfl⟩
  have m_LONGEST_INTEGER : ∃ u, mg "LONGEST_INTEGER" = some u ∧ RelV (.int 4000) u := let ⟨t, e⟩ := He.int_ok X G (c.d.fact 56 (f := He.Fa.int "LONGEST_INTEGER" 4000) rfl); ⟨_, e, t, rfl⟩
  have f_all : mg "all" = none := He.free_ok X G (c.d.fact 57 (f := He.Fa.free "all") rfl)
  have m_MAX_BASE : ∃ u, mg "MAX_BASE" = some u ∧ RelV (.int 100000000000000000000) u := let ⟨t, e⟩ := He.int_ok X G (c.d.fact 58 (f := He.Fa.int "MAX_BASE" 100000000000000000000) rfl); ⟨_, e, t, rfl⟩
  have f_str : mg "str" = none := He.free_ok X G (c.d.fact 59 (f := He.Fa.free "str") rfl)
  have f_sum : mg "sum" = none := He.free_ok X G (c.d.fact 60 (f := He.Fa.free "sum") rfl)
  have f_zip : mg "zip" = none := He.free_ok X G (c.d.fact 61 (f := He.Fa.free "zip") rfl)
  have f_min : mg "min" = none := He.free_ok X G (c.d.fact 62 (f := He.Fa.free "min") rfl)
  have f_abs : mg "abs" = none := He.free_ok X G (c.d.fact 63 (f := He.Fa.free "abs") rfl)
  obtain ⟨fd_law_base_right, F_law_base_right⟩ := c.d.def_ 0 (d := d_law_base_right) rfl
  obtain ⟨fd_law_cell, F_law_cell⟩ := c.d.def_ 1 (d := d_law_cell) rfl
  obtain ⟨fd_law_great, F_law_great⟩ := c.d.def_ 2 (d := d_law_great) rfl
  obtain ⟨fd_law_whole, F_law_whole⟩ := c.d.def_ 3 (d := d_law_whole) rfl
  obtain ⟨fd_law_is, F_law_is⟩ := c.d.def_ 4 (d := d_law_is) rfl
  obtain ⟨fd_law_draw, F_law_draw⟩ := c.d.def_ 5 (d := d_law_draw) rfl
  obtain ⟨fd_law_mixed, F_law_mixed⟩ := c.d.def_ 6 (d := d_law_mixed) rfl
  obtain ⟨fd_integer_in, F_integer_in⟩ := c.d.def_ 7 (d := d_integer_in) rfl
  obtain ⟨fd_pair_in, F_pair_in⟩ := c.d.def_ 8 (d := d_pair_in) rfl
  obtain ⟨fd_is_integer, F_is_integer⟩ := c.d.def_ 9 (d := d_is_integer) rfl
  obtain ⟨fd_wrong_pair, F_wrong_pair⟩ := c.d.def_ 10 (d := d_wrong_pair) rfl
  obtain ⟨fd_Number_init, F_Number_init⟩ := c.d.def_ 11 (d := d_Number_init) rfl
  obtain ⟨fd_law_num17, F_law_num17⟩ := c.d.def_ 12 (d := d_law_num17) rfl
  obtain ⟨fd_check_number, F_check_number⟩ := c.d.def_ 13 (d := d_check_number) rfl
  obtain ⟨fd_common_divisor, F_common_divisor⟩ := c.d.def_ 14 (d := d_common_divisor) rfl
  obtain ⟨fd_refined, F_refined⟩ := c.d.def_ 15 (d := d_refined) rfl
  obtain ⟨fd_common_base, F_common_base⟩ := c.d.def_ 16 (d := d_common_base) rfl
  obtain ⟨fd_times_in, F_times_in⟩ := c.d.def_ 17 (d := d_times_in) rfl
  obtain ⟨fd_exponent_over, F_exponent_over⟩ := c.d.def_ 18 (d := d_exponent_over) rfl
  obtain ⟨fd_exponents_over, F_exponents_over⟩ := c.d.def_ 19 (d := d_exponents_over) rfl
  obtain ⟨fd_compared, F_compared⟩ := c.d.def_ 20 (d := d_compared) rfl
  obtain ⟨fd_divides, F_divides⟩ := c.d.def_ 21 (d := d_divides) rfl
  obtain ⟨fd_check_numbers, F_check_numbers⟩ := c.d.def_ 22 (d := d_check_numbers) rfl
  obtain ⟨fd_number_with, F_number_with⟩ := c.d.def_ 23 (d := d_number_with) rfl
  obtain ⟨fd_Number_or, F_Number_or⟩ := c.d.def_ 24 (d := d_Number_or) rfl
  obtain ⟨fd_meet, F_meet⟩ := c.d.def_ 25 (d := d_meet) rfl
  obtain ⟨fd_parted, F_parted⟩ := c.d.def_ 26 (d := d_parted) rfl
  obtain ⟨fd_Number_and, F_Number_and⟩ := c.d.def_ 27 (d := d_Number_and) rfl
  obtain ⟨fd_share, F_share⟩ := c.d.def_ 28 (d := d_share) rfl
  obtain ⟨fd_Number_eq, F_Number_eq⟩ := c.d.def_ 29 (d := d_Number_eq) rfl
  obtain ⟨fd_Number_floordiv, F_Number_floordiv⟩ := c.d.def_ 30 (d := d_Number_floordiv) rfl
  obtain ⟨fd_Number_mul, F_Number_mul⟩ := c.d.def_ 31 (d := d_Number_mul) rfl
  obtain ⟨fd_law_pair_right, F_law_pair_right⟩ := c.d.def_ 32 (d := d_law_pair_right) rfl
  obtain ⟨fd_law_written, F_law_written⟩ := c.d.def_ 33 (d := d_law_written) rfl
  obtain ⟨fd_coprime_base, F_coprime_base⟩ := c.d.def_ 34 (d := d_coprime_base) rfl
  obtain ⟨fd_exponent_in, F_exponent_in⟩ := c.d.def_ 35 (d := d_exponent_in) rfl
  obtain ⟨fd_powered, F_powered⟩ := c.d.def_ 36 (d := d_powered) rfl
  obtain ⟨fd_integer_root, F_integer_root⟩ := c.d.def_ 37 (d := d_integer_root) rfl
  obtain ⟨fd_simplest, F_simplest⟩ := c.d.def_ 38 (d := d_simplest) rfl
  obtain ⟨fd_simple_powers, F_simple_powers⟩ := c.d.def_ 39 (d := d_simple_powers) rfl
  obtain ⟨fd_greatest_root, F_greatest_root⟩ := c.d.def_ 40 (d := d_greatest_root) rfl
  obtain ⟨fd_root, F_root⟩ := c.d.def_ 41 (d := d_root) rfl
  obtain ⟨fd_Number_contains, F_Number_contains⟩ := c.d.def_ 42 (d := d_Number_contains) rfl
  obtain ⟨fd_law_right, F_law_right⟩ := c.d.def_ 43 (d := d_law_right) rfl
  obtain ⟨fd_law_source, F_law_source⟩ := c.d.def_ 44 (d := d_law_source) rfl
  obtain ⟨fd_law, F_law⟩ := c.d.def_ 45 (d := d_law) rfl
  obtain ⟨fd_Number_read, F_Number_read⟩ := c.px (fun K => cmG K (He.ga K "Number") "read", d_Number_read) (by unfold pxL; simp)
  obtain ⟨fd_Number_of, F_Number_of⟩ := c.px (fun K => cmG K (He.ga K "Number") "of", d_Number_of) (by unfold pxL; simp)
  have e := hfa.symm.trans (He.glo_ok X G (c.d.fact 38 (f := He.Fa.glo "law") rfl))
  cases e
  have b := FunD.bindsA (ps := ["_law_script"]) F_law fun _ _ _ _ _ _ us hl => match us, hl with | [_], _ => rfl
  refine ⟨fd_law, fun s v => b s [v] rfl, fun base _ _ => ?_⟩
  have D_law_base_right : Df P w K mg base (fun _ => He.ga K "Number") 1 "_law_base_right" sp_law_base_right := df_of (He.glo_ok X G (c.d.fact 0 (f := He.Fa.glo "_law_base_right") rfl)) F_law_base_right (ok_law_base_right (P := P) (w := w) (base := base) (ca := (fun _ => He.ga K "Number")) f_len f_list f_max f_range f_set f_sorted F_law_base_right)
  have D_law_cell : Df P w K mg base (fun _ => He.ga K "Number") 1 "_law_cell" sp_law_cell := df_of (He.glo_ok X G (c.d.fact 1 (f := He.Fa.glo "_law_cell") rfl)) F_law_cell (ok_law_cell (P := P) (w := w) (base := base) (ca := (fun _ => He.ga K "Number")) f_len F_law_cell)
  have D_law_great : Df P w K mg base (fun _ => He.ga K "Number") 1 "_law_great" sp_law_great := df_of (He.glo_ok X G (c.d.fact 2 (f := He.Fa.glo "_law_great") rfl)) F_law_great (ok_law_great (P := P) (w := w) (base := base) (ca := (fun _ => He.ga K "Number"))  F_law_great)
  have D_law_whole : Df P w K mg base (fun _ => He.ga K "Number") 1 "_law_whole" sp_law_whole := df_of (He.glo_ok X G (c.d.fact 3 (f := He.Fa.glo "_law_whole") rfl)) F_law_whole (ok_law_whole (P := P) (w := w) (base := base) (ca := (fun _ => He.ga K "Number")) f_bool f_int f_isinstance hIs F_law_whole)
  have D_law_is : Df P w K mg base (fun _ => He.ga K "Number") 2 "_law_is" sp_law_is := df_of (He.glo_ok X G (c.d.fact 4 (f := He.Fa.glo "_law_is") rfl)) F_law_is (ok_law_is (P := P) (w := w) (base := base) (ca := (fun _ => He.ga K "Number")) D_law_whole c_Number n_powers hI f_enumerate f_isinstance f_len f_list f_tuple hIs F_law_is)
  have D_law_draw : Df P w K mg base (fun _ => He.ga K "Number") 1 "_law_draw" sp_law_draw := df_of (He.glo_ok X G (c.d.fact 5 (f := He.Fa.glo "_law_draw") rfl)) F_law_draw (ok_law_draw (P := P) (w := w) (base := base) (ca := (fun _ => He.ga K "Number")) f_dm F_law_draw)
  have D_law_mixed : Df P w K mg base (fun _ => He.ga K "Number") 2 "_law_mixed" sp_law_mixed := df_of (He.glo_ok X G (c.d.fact 6 (f := He.Fa.glo "_law_mixed") rfl)) F_law_mixed (ok_law_mixed (P := P) (w := w) (base := base) (ca := (fun _ => He.ga K "Number")) D_law_draw f_len f_list f_range F_law_mixed)
  have D_integer_in : Df P w K mg base (fun _ => He.ga K "Number") 1 "integer_in" sp_integer_in := df_of (He.glo_ok X G (c.d.fact 7 (f := He.Fa.glo "integer_in") rfl)) F_integer_in (ok_integer_in (P := P) (w := w) (base := base) (ca := (fun _ => He.ga K "Number")) m_DIGITS m_LONGEST_INTEGER f_all f_int f_len F_integer_in)
  have D_pair_in : Df P w K mg base (fun _ => He.ga K "Number") 2 "pair_in" sp_pair_in := df_of (He.glo_ok X G (c.d.fact 8 (f := He.Fa.glo "pair_in") rfl)) F_pair_in (ok_pair_in (P := P) (w := w) (base := base) (ca := (fun _ => He.ga K "Number")) D_integer_in m_MAX_BASE F_pair_in)
  have D_is_integer : Df P w K mg base (fun _ => He.ga K "Number") 1 "is_integer" sp_is_integer := df_of (He.glo_ok X G (c.d.fact 9 (f := He.Fa.glo "is_integer") rfl)) F_is_integer (ok_is_integer (P := P) (w := w) (base := base) (ca := (fun _ => He.ga K "Number")) f_bool f_int f_isinstance hIs F_is_integer)
  have D_wrong_pair : Df P w K mg base (fun _ => He.ga K "Number") 2 "wrong_pair" sp_wrong_pair := df_of (He.glo_ok X G (c.d.fact 10 (f := He.Fa.glo "wrong_pair") rfl)) F_wrong_pair (ok_wrong_pair (P := P) (w := w) (base := base) (ca := (fun _ => He.ga K "Number")) D_is_integer m_MAX_BASE f_enumerate f_isinstance f_len f_tuple hIs F_wrong_pair)
  have mk := He.mkr_ok (c.d.fact 41 (f := He.Fa.mkr "Number") rfl)
  have k_Number : Cal P w K mg base (fun _ => He.ga K "Number") 4 ((fun _ => He.ga K "Number") "Number") sp_Number := Cal.make (c := "Number") mk (ok_Number_init (P := P) (w := w) (base := base) (ca := (fun _ => He.ga K "Number")) D_wrong_pair cNumber (He.noat_ok (c.d.fact 51 (f := He.Fa.noat "Number" "powers") rfl)) F_Number_init)
  have D_Number : Df P w K mg base (fun _ => He.ga K "Number") 4 "Number" sp_Number := ⟨_, He.glo_ok X G (c.d.fact 39 (f := He.Fa.glo "Number") rfl), k_Number⟩
  have q_read : CMt P w K mg base (fun _ => He.ga K "Number") 5 "Number" "read" sp_Number_read := ⟨_, _, _, (cmB_ok hcm_Number_read).1, (cmB_ok hcm_Number_read).2, ok_Number_read (P := P) (w := w) (base := base) (ca := (fun _ => He.ga K "Number")) D_pair_in f_isinstance f_str hIs k_Number F_Number_read⟩
  have D_law_num17 : Df P w K mg base (fun _ => He.ga K "Number") 6 "_law_number" sp_law_num17 := df_of (He.glo_ok X G (c.d.fact 11 (f := He.Fa.glo "_law_number") rfl)) F_law_num17 (ok_law_num17 (P := P) (w := w) (base := base) (ca := (fun _ => He.ga K "Number")) c_Number q_read f_str F_law_num17)
  have D_check_number : Df P w K mg base (fun _ => He.ga K "Number") 1 "check_number" sp_check_number := df_of (He.glo_ok X G (c.d.fact 12 (f := He.Fa.glo "check_number") rfl)) F_check_number (ok_check_number (P := P) (w := w) (base := base) (ca := (fun _ => He.ga K "Number")) c_Number f_isinstance hIs F_check_number)
  have D_common_divisor : Df P w K mg base (fun _ => He.ga K "Number") 1 "common_divisor" sp_common_divisor := df_of (He.glo_ok X G (c.d.fact 13 (f := He.Fa.glo "common_divisor") rfl)) F_common_divisor (ok_common_divisor (P := P) (w := w) (base := base) (ca := (fun _ => He.ga K "Number"))  F_common_divisor)
  have D_refined : Df P w K mg base (fun _ => He.ga K "Number") 2 "refined" sp_refined := df_of (He.glo_ok X G (c.d.fact 14 (f := He.Fa.glo "refined") rfl)) F_refined (ok_refined (P := P) (w := w) (base := base) (ca := (fun _ => He.ga K "Number")) D_common_divisor f_enumerate f_sorted f_tuple F_refined)
  have D_common_baseN : Df P w K mg base (fun _ => He.ga K "Number") 3 "common_base" sp_common_baseN := df_of (He.glo_ok X G (c.d.fact 15 (f := He.Fa.glo "common_base") rfl)) F_common_base (ok_common_base (P := P) (w := w) (base := base) (ca := (fun _ => He.ga K "Number")) D_refined F_common_base)
  have D_common_base : Df P w K mg base (fun _ => He.ga K "Number") 3 "common_base" sp_common_base := D_common_baseN.imp cb_star
  have D_times_in : Df P w K mg base (fun _ => He.ga K "Number") 1 "times_in" sp_times_in := df_of (He.glo_ok X G (c.d.fact 16 (f := He.Fa.glo "times_in") rfl)) F_times_in (ok_times_in (P := P) (w := w) (base := base) (ca := (fun _ => He.ga K "Number"))  F_times_in)
  have D_exponent_over : Df P w K mg base (fun _ => He.ga K "Number") 2 "exponent_over" sp_exponent_over := df_of (He.glo_ok X G (c.d.fact 17 (f := He.Fa.glo "exponent_over") rfl)) F_exponent_over (ok_exponent_over (P := P) (w := w) (base := base) (ca := (fun _ => He.ga K "Number")) D_times_in f_sum F_exponent_over)
  have D_exponents_over : Df P w K mg base (fun _ => He.ga K "Number") 3 "exponents_over" sp_exponents_over := df_of (He.glo_ok X G (c.d.fact 18 (f := He.Fa.glo "exponents_over") rfl)) F_exponents_over (ok_exponents_over (P := P) (w := w) (base := base) (ca := (fun _ => He.ga K "Number")) D_exponent_over f_tuple F_exponents_over)
  have D_compared : Df P w K mg base (fun _ => He.ga K "Number") 4 "compared" sp_compared := df_of (He.glo_ok X G (c.d.fact 19 (f := He.Fa.glo "compared") rfl)) F_compared (ok_compared (P := P) (w := w) (base := base) (ca := (fun _ => He.ga K "Number")) D_common_base D_exponents_over n_powers hI f_list f_zip F_compared)
  have D_divides : Df P w K mg base (fun _ => He.ga K "Number") 5 "divides" sp_divides := df_of (He.glo_ok X G (c.d.fact 20 (f := He.Fa.glo "divides") rfl)) F_divides (ok_divides (P := P) (w := w) (base := base) (ca := (fun _ => He.ga K "Number")) D_check_number D_compared F_divides)
  have D_check_numbers : Df P w K mg base (fun _ => He.ga K "Number") 1 "check_numbers" sp_check_numbers := df_of (He.glo_ok X G (c.d.fact 21 (f := He.Fa.glo "check_numbers") rfl)) F_check_numbers (ok_check_numbers (P := P) (w := w) (base := base) (ca := (fun _ => He.ga K "Number")) c_Number f_enumerate f_isinstance f_len hIs F_check_numbers)
  have D_number_with : Df P w K mg base (fun _ => He.ga K "Number") 5 "number_with" sp_number_with := df_of (He.glo_ok X G (c.d.fact 22 (f := He.Fa.glo "number_with") rfl)) F_number_with (ok_number_with (P := P) (w := w) (base := base) (ca := (fun _ => He.ga K "Number")) D_Number f_zip F_number_with)
  have me_or := He.meth_ok (c.d.fact 64 (f := He.Fa.meth "Number" "__or__") rfl)
  have o_or : OpB P w K mg base (fun _ => He.ga K "Number") 6 "Number" .BitOr sp_or := ⟨_, self1, me_or.at_, me_or.fn, ok_Number_or (P := P) (w := w) (base := base) (ca := (fun _ => He.ga K "Number")) D_compared D_number_with F_Number_or⟩
  have D_meet : Df P w K mg base (fun _ => He.ga K "Number") 7 "meet" sp_meet := df_of (He.glo_ok X G (c.d.fact 23 (f := He.Fa.glo "meet") rfl)) F_meet (ok_meet (P := P) (w := w) (base := base) (ca := (fun _ => He.ga K "Number")) D_Number D_check_numbers o_or F_meet)
  have D_parted : Df P w K mg base (fun _ => He.ga K "Number") 6 "parted" sp_parted := df_of (He.glo_ok X G (c.d.fact 24 (f := He.Fa.glo "parted") rfl)) F_parted (ok_parted (P := P) (w := w) (base := base) (ca := (fun _ => He.ga K "Number")) D_check_number D_compared D_number_with F_parted)
  have me_and := He.meth_ok (c.d.fact 65 (f := He.Fa.meth "Number" "__and__") rfl)
  have o_and : OpB P w K mg base (fun _ => He.ga K "Number") 6 "Number" .BitAnd sp_and := ⟨_, self1, me_and.at_, me_and.fn, ok_Number_and (P := P) (w := w) (base := base) (ca := (fun _ => He.ga K "Number")) D_compared D_number_with F_Number_and⟩
  have D_share : Df P w K mg base (fun _ => He.ga K "Number") 7 "share" sp_share := df_of (He.glo_ok X G (c.d.fact 25 (f := He.Fa.glo "share") rfl)) F_share (ok_share (P := P) (w := w) (base := base) (ca := (fun _ => He.ga K "Number")) D_check_numbers o_and F_share)
  have me_eq := He.meth_ok (c.d.fact 66 (f := He.Fa.meth "Number" "__eq__") rfl)
  have o_eq : OpC P w K mg base (fun _ => He.ga K "Number") 5 "Number" .Eq sp_eq := ⟨_, me_eq.at_, me_eq.fn, ok_Number_eq (P := P) (w := w) (base := base) (ca := (fun _ => He.ga K "Number")) D_compared c_Number f_isinstance hIs F_Number_eq⟩
  have o_ne : OpN P w K mg base (fun _ => He.ga K "Number") 5 "Number" sp_eq := ⟨_, He.eqO_ok ne0, me_eq.at_, me_eq.fn, hI.hm, ok_Number_eq (P := P) (w := w) (base := base) (ca := (fun _ => He.ga K "Number")) D_compared c_Number f_isinstance hIs F_Number_eq⟩
  have me_floordiv := He.meth_ok (c.d.fact 67 (f := He.Fa.meth "Number" "__floordiv__") rfl)
  have o_floordiv : OpB P w K mg base (fun _ => He.ga K "Number") 6 "Number" .FloorDiv sp_floordiv := ⟨_, self1, me_floordiv.at_, me_floordiv.fn, ok_Number_floordiv (P := P) (w := w) (base := base) (ca := (fun _ => He.ga K "Number")) D_compared D_number_with F_Number_floordiv⟩
  have me_mul := He.meth_ok (c.d.fact 68 (f := He.Fa.meth "Number" "__mul__") rfl)
  have o_mul : OpB P w K mg base (fun _ => He.ga K "Number") 6 "Number" .Mult sp_mul := ⟨_, self1, me_mul.at_, me_mul.fn, ok_Number_mul (P := P) (w := w) (base := base) (ca := (fun _ => He.ga K "Number")) D_compared D_number_with F_Number_mul⟩
  have D_law_pair_right : Df P w K mg base (fun _ => He.ga K "Number") 8 "_law_pair_right" sp_law_pair_right := df_of (He.glo_ok X G (c.d.fact 26 (f := He.Fa.glo "_law_pair_right") rfl)) F_law_pair_right (ok_law_pair_right (P := P) (w := w) (base := base) (ca := (fun _ => He.ga K "Number")) D_law_is D_divides D_meet D_parted D_share f_all f_list f_max f_min f_zip o_and o_eq o_floordiv o_mul o_or F_law_pair_right)
  have D_law_written : Df P w K mg base (fun _ => He.ga K "Number") 2 "_law_written" sp_law_written := df_of (He.glo_ok X G (c.d.fact 27 (f := He.Fa.glo "_law_written") rfl)) F_law_written (ok_law_written (P := P) (w := w) (base := base) (ca := (fun _ => He.ga K "Number")) D_law_draw f_len f_range f_tuple F_law_written)
  have D_coprime_base : Df P w K mg base (fun _ => He.ga K "Number") 4 "coprime_base" sp_coprime_base := df_of (He.glo_ok X G (c.d.fact 28 (f := He.Fa.glo "coprime_base") rfl)) F_coprime_base (ok_coprime_base (P := P) (w := w) (base := base) (ca := (fun _ => He.ga K "Number")) D_check_numbers D_common_baseN n_powers hI F_coprime_base)
  have D_exponent_in : Df P w K mg base (fun _ => He.ga K "Number") 4 "exponent_in" sp_exponent_in := df_of (He.glo_ok X G (c.d.fact 29 (f := He.Fa.glo "exponent_in") rfl)) F_exponent_in (ok_exponent_in (P := P) (w := w) (base := base) (ca := (fun _ => He.ga K "Number")) D_check_number D_common_base D_exponents_over D_is_integer D_times_in m_MAX_BASE n_powers hI f_list f_min f_zip F_exponent_in)
  have D_powered : Df P w K mg base (fun _ => He.ga K "Number") 1 "powered" sp_powered := df_of (He.glo_ok X G (c.d.fact 30 (f := He.Fa.glo "powered") rfl)) F_powered (ok_powered (P := P) (w := w) (base := base) (ca := (fun _ => He.ga K "Number"))  F_powered)
  have D_integer_root : Df P w K mg base (fun _ => He.ga K "Number") 2 "integer_root" sp_integer_root := df_of (He.glo_ok X G (c.d.fact 31 (f := He.Fa.glo "integer_root") rfl)) F_integer_root (ok_integer_root (P := P) (w := w) (base := base) (ca := (fun _ => He.ga K "Number")) D_powered F_integer_root)
  have D_simplest : Df P w K mg base (fun _ => He.ga K "Number") 3 "simplest" sp_simplest := df_of (He.glo_ok X G (c.d.fact 32 (f := He.Fa.glo "simplest") rfl)) F_simplest (ok_simplest (P := P) (w := w) (base := base) (ca := (fun _ => He.ga K "Number")) D_integer_root D_powered f_range F_simplest)
  have D_simple_powers : Df P w K mg base (fun _ => He.ga K "Number") 4 "simple_powers" sp_simple_powers := df_of (He.glo_ok X G (c.d.fact 33 (f := He.Fa.glo "simple_powers") rfl)) F_simple_powers (ok_simple_powers (P := P) (w := w) (base := base) (ca := (fun _ => He.ga K "Number")) D_common_baseN D_exponents_over D_simplest n_powers hI f_zip F_simple_powers)
  have D_greatest_root : Df P w K mg base (fun _ => He.ga K "Number") 5 "greatest_root" sp_greatest_root := df_of (He.glo_ok X G (c.d.fact 34 (f := He.Fa.glo "greatest_root") rfl)) F_greatest_root (ok_greatest_root (P := P) (w := w) (base := base) (ca := (fun _ => He.ga K "Number")) D_Number D_check_number D_common_divisor D_simple_powers n_powers hI F_greatest_root)
  have D_root : Df P w K mg base (fun _ => He.ga K "Number") 5 "root" sp_root := df_of (He.glo_ok X G (c.d.fact 35 (f := He.Fa.glo "root") rfl)) F_root (ok_root (P := P) (w := w) (base := base) (ca := (fun _ => He.ga K "Number")) D_Number D_check_number D_is_integer D_simple_powers F_root)
  have me_contains := He.meth_ok (c.d.fact 69 (f := He.Fa.meth "Number" "__contains__") rfl)
  have o_contains : OpIn P w K mg base (fun _ => He.ga K "Number") 6 "Number" sp_contains := ⟨_, me_contains.at_, me_contains.fn, ok_Number_contains (P := P) (w := w) (base := base) (ca := (fun _ => He.ga K "Number")) D_Number D_divides D_is_integer m_MAX_BASE F_Number_contains⟩
  have D_law_right : Df P w K mg base (fun _ => He.ga K "Number") 9 "_law_right" sp_law_right := df_of (He.glo_ok X G (c.d.fact 36 (f := He.Fa.glo "_law_right") rfl)) F_law_right (ok_law_right (P := P) (w := w) (base := base) (ca := (fun _ => He.ga K "Number")) D_law_base_right D_law_draw D_law_great D_law_is D_law_mixed D_law_num17 D_law_pair_right D_law_written D_coprime_base D_exponent_in D_greatest_root D_root f_int f_len f_min f_range o_contains o_mul F_law_right)
  have D_law_source : Df P w K mg base (fun _ => He.ga K "Number") 1 "_law_source" sp_law_source := df_of (He.glo_ok X G (c.d.fact 37 (f := He.Fa.glo "_law_source") rfl)) F_law_source (ok_law_source (P := P) (w := w) (base := base) (ca := (fun _ => He.ga K "Number")) f_abs F_law_source)
  have q_of : CMt P w K mg base (fun _ => He.ga K "Number") 5 "Number" "of" sp_Number_of := ⟨_, _, _, (cmB_ok hcm_Number_of).1, (cmB_ok hcm_Number_of).2, ok_Number_of (P := P) (w := w) (base := base) (ca := (fun _ => He.ga K "Number")) D_is_integer m_MAX_BASE k_Number F_Number_of⟩
  exact ok_law (P := P) (w := w) (base := base) (ca := (fun _ => He.ga K "Number")) D_law_base_right D_law_cell D_law_great D_law_is D_law_right D_law_source D_coprime_base c_Number q_of f_all f_len f_max f_min f_range o_and F_law
end DL
open PySem PySem.W PySem.Calls
theorem PySem.Challenge.cw_sharetable_k17_whole_products_of_great_p_holds : PySem.Challenge.rw_sharetable_k17_whole_products_of_great_p.Holds := by
  w_on; o_law
  refine HandSHeadRun.head_any (r := OpenLaw.row PySem.Challenge.rw_sharetable_k17_whole_products_of_great_p) (q := view (OpenLaw.row PySem.Challenge.rw_sharetable_k17_whole_products_of_great_p).prog [58]) (H := DL.hkL) (ob := DL.obL) (M := 20000) (loose := DL.looseL) (d := HandSHeadRun.topDef (OpenLaw.row PySem.Challenge.rw_sharetable_k17_whole_products_of_great_p).prog 58) (kwd := []) DL.obL_eq
    (by kernel_rfl) (fun s => by kernel_rfl) DL.runL (by kernel_rfl) (by kernel_rfl) (by kernel_rfl) (by rfl) (by first | assumption | decide +kernel) (by decide +kernel) ⟨rfl, rfl, rfl, rfl, rfl, by decide +kernel⟩ ?hw ?hc
  case hw => w_witness2
  case hc =>
    refine L2.walk_ofE (l := PySem.Challenge.rw_sharetable_k17_whole_products_of_great_p) (n := 63) (k := 10) (x := "_law_script") (CX := L2.CX0) rfl (by decide) (by kernel_rfl) ⟨rfl, by decide, by decide⟩ ?F (fun _ _ _ _ z => z)
    intro w mg fa h Y G hmg0
    obtain ⟨K, KX, c⟩ := Y
    have hmg : mg ("law" : PySem.Str) = some (.ref fa) := by
      have e : (HandSHeadRun.topDef (OpenLaw.row PySem.Challenge.rw_sharetable_k17_whole_products_of_great_p).prog 58).name = ("law" : PySem.Str) := by kernel_rfl
      rw [← e]
      exact hmg0
    obtain ⟨fd, hb, hF⟩ := DL.facts (P := (PySem.Challenge.rw_sharetable_k17_whole_products_of_great_p).prog) (w := w) KX G hmg c
    exact ⟨K, fd, _, KX, hb, fun H a ns hl _ hS => ⟨fun _ => False, _, fun d => d = .bl true, fun _ z => z.elim, DL.ask_law (Q := fun _ => True) hS, ⟨ns, rfl, hl, rfl⟩, fun d hd v H' _ hv => by subst hd; exact hv⟩, hF⟩
