import PyProof.Rows.All
import Wide.All
import OpenK.AllK
import Wide.FinOn
import HandS.ForMost
import KE.KDictKeyed
import HandS.Steps
import HandS.IsInst
import HandS.Conv
import HandS.More
import PyProof.StrOps2
import HandS.TupAny
import HandS.ReplaceLit
import HandS.Defaults
import HandS.ClsMeth
import HandS.WideBits
import HandS.ForExc
import HandS.ExcInit
import HandS.ExcField
import HandS.ExcIs
import HandS.ExcOwn
import KE.GoesZip
import KE.GoesMore
import KE.GoesEnum
import KE.KExcIs
import HandS.HotCalls
import HandS.WordsExc
import HandS.Replace
import HandS.ReplaceList
import PySem.Challenge.RW_padwright_k50_any_word_anywhere
set_option Elab.async false
set_option linter.all false
set_option maxRecDepth 100000
set_option maxHeartbeats 4000000
namespace DL
open PySem L2
inductive D where
  | non | bl (b : Bool) | int (i : Int) | str (x : Str)
  | tup (ds : List D) | lst (ds : List D) | rol (ns : List Int)
  | obj (c : Str) (ns : List Str) (ds : List D) | dic (ks : List Key) (ds : List D)
  | ty (n : String) | adr (a : Addr)
noncomputable abbrev Fg := PySem.W.Frag
/-- the context's fixed parts -/
structure Bx where
  K : Fg
  P : Program
  w : World
  mg : Str → Option Value
noncomputable abbrev bx (X : Cx) : Bx := ⟨X.K, X.prog, X.w, X.mg⟩
mutual
/-- the value v is, in the heap G, the data -/
noncomputable def Rep (B : Bx) (G : Hp) : D → V → Prop
  | .non, v => v = .non
  | .bl b, v => v = .bl b
  | .int i, v => v = .int i
  | .str x, v => v = .str x
  | .tup ds, v => ∃ a xs, v = .ref a ∧ SqT B.K G a xs ∧ RepL B G ds xs
  | .lst ds, v => ∃ a xs, v = .ref a ∧ G a = some (.lst xs) ∧ RepL B G ds xs
  | .rol ns, v => ∃ a, v = .ref a ∧ SqL B.K G a (ns.map V.int)
  | .obj c ns ds, v => ∃ a ca dx xs, v = .ref a ∧ B.mg c = some (.ref ca) ∧ G a = some (.ins ca dx (ns.zip xs)) ∧ RepL B G ds xs ∧ ns.length = ds.length
  | .dic ks ds, v => ∃ a xs, v = .ref a ∧ G a = some (.dK (ks.zip xs)) ∧ RepL B G ds xs ∧ ks.length = ds.length
  | .ty n, v => v = .ty n
  | .adr a, v => v = .ref a
noncomputable def RepL (B : Bx) (G : Hp) : List D → List V → Prop
  | [], xs => xs = []
  | d :: ds, xs => ∃ x r, xs = x :: r ∧ Rep B G d x ∧ RepL B G ds r
end
theorem _root_.L2.Same.seqT {K : Fg} {H H' : Hp} {a : Addr} {xs : List V} (e : Same H H') (h : SqT K H a xs) : SqT K H' a xs := by
  rcases h with (h | ⟨o, h⟩) | h
  · exact .inl (.inl (e _ _ h))
  · exact .inl (.inr ⟨o, e _ _ h⟩)
  · exact .inr h
section
variable {B : Bx} {G G' : Hp}
mutual
theorem Rep.mono (s : Same G G') : ∀ (d : D) (v : V), Rep B G d v → Rep B G' d v
  | .non, v, h => h
  | .bl b, v, h => h
  | .int i, v, h => h
  | .str x, v, h => h
  | .tup ds, v, ⟨a, xs, e, h, r⟩ => ⟨a, xs, e, s.seqT h, RepL.mono s ds xs r⟩
  | .lst ds, v, ⟨a, xs, e, h, r⟩ => ⟨a, xs, e, s _ _ h, RepL.mono s ds xs r⟩
  | .rol ns, v, ⟨a, e, h⟩ => ⟨a, e, s.seq h⟩
  | .obj c ns ds, v, ⟨a, ca, dx, xs, e, m, h, r, l⟩ => ⟨a, ca, dx, xs, e, m, s _ _ h, RepL.mono s ds xs r, l⟩
  | .dic ks ds, v, ⟨a, xs, e, h, r, l⟩ => ⟨a, xs, e, s _ _ h, RepL.mono s ds xs r, l⟩
  | .ty n, v, h => h
  | .adr a, v, h => h
theorem RepL.mono (s : Same G G') : ∀ (ds : List D) (xs : List V), RepL B G ds xs → RepL B G' ds xs
  | [], xs, h => h
  | d :: ds, xs, ⟨x, r, e, h, t⟩ => ⟨x, r, e, Rep.mono s d x h, RepL.mono s ds r t⟩
end
theorem RepL.length : ∀ {ds : List D} {xs : List V}, RepL B G ds xs → xs.length = ds.length
  | [], xs, h => by have e : xs = [] := h; rw [e]; rfl
  | d :: ds, xs, ⟨x, r, e, h, t⟩ => by rw [e, List.length_cons, List.length_cons, RepL.length t]
theorem RepL.get : ∀ {ds : List D} {xs : List V} {i : Nat} {d : D}, RepL B G ds xs → ds[i]? = some d → ∃ x, xs[i]? = some x ∧ Rep B G d x
  | [], xs, i, d, h, e => by simp at e
  | d0 :: ds, xs, 0, d, ⟨x, r, e, h, t⟩, q => by simp at q; subst q; exact ⟨x, by rw [e]; rfl, h⟩
  | d0 :: ds, xs, i + 1, d, ⟨x, r, e, h, t⟩, q => by
    obtain ⟨y, h1, h2⟩ := RepL.get (i := i) (d := d) t (by simpa using q)
    exact ⟨y, by rw [e]; simpa using h1, h2⟩
theorem RepL.append : ∀ {ds es : List D} {xs ys : List V}, RepL B G ds xs → RepL B G es ys → RepL B G (ds ++ es) (xs ++ ys)
  | [], es, xs, ys, h, q => by have e : xs = [] := h; rw [e]; exact q
  | d :: ds, es, xs, ys, ⟨x, r, e, h, t⟩, q => ⟨x, r ++ ys, by rw [e]; rfl, h, RepL.append t q⟩
theorem RepL.nil : RepL B G [] [] := rfl
theorem RepL.one {d : D} {x : V} (h : Rep B G d x) : RepL B G [d] [x] := ⟨x, [], rfl, h, rfl⟩
theorem RepL.cons {d : D} {x : V} {ds xs} (h : Rep B G d x) (t : RepL B G ds xs) : RepL B G (d :: ds) (x :: xs) := ⟨x, xs, rfl, h, t⟩
theorem RepL.take : ∀ {ds : List D} {xs : List V} (n : Nat), RepL B G ds xs → RepL B G (ds.take n) (xs.take n)
  | [], xs, n, h => by have e : xs = [] := h; rw [e]; simpa using (RepL.nil : RepL B G [] [])
  | d :: ds, xs, 0, h => by simpa using (RepL.nil : RepL B G [] [])
  | d :: ds, xs, n + 1, ⟨x, r, e, h, t⟩ => by rw [e]; exact ⟨x, r.take n, rfl, h, RepL.take n t⟩
theorem RepL.drop : ∀ {ds : List D} {xs : List V} (n : Nat), RepL B G ds xs → RepL B G (ds.drop n) (xs.drop n)
  | [], xs, n, h => by have e : xs = [] := h; rw [e]; simpa using (RepL.nil : RepL B G [] [])
  | d :: ds, xs, 0, h => by simpa using h
  | d :: ds, xs, n + 1, ⟨x, r, e, h, t⟩ => by rw [e]; simpa using RepL.drop n t
theorem RepL.set : ∀ {ds : List D} {xs : List V} {d : D} {x : V} (i : Nat), RepL B G ds xs → Rep B G d x → RepL B G (ds.set i d) (xs.set i x)
  | [], xs, d, x, i, h, q => by have e : xs = [] := h; rw [e]; simpa using (RepL.nil : RepL B G [] [])
  | d0 :: ds, xs, d, x, 0, ⟨y, r, e, h, t⟩, q => by rw [e]; exact ⟨x, r, rfl, q, t⟩
  | d0 :: ds, xs, d, x, i + 1, ⟨y, r, e, h, t⟩, q => by rw [e]; exact ⟨y, r.set i x, rfl, h, RepL.set i t q⟩
theorem RepL.of_ints : ∀ (ns : List Int), RepL B G (ns.map D.int) (ns.map V.int)
  | [] => rfl
  | n :: ns => ⟨_, _, rfl, rfl, RepL.of_ints ns⟩
theorem RepL.of_strs : ∀ (ns : List Str), RepL B G (ns.map D.str) (ns.map V.str)
  | [] => rfl
  | n :: ns => ⟨_, _, rfl, rfl, RepL.of_strs ns⟩
end
inductive Cell where
  | no | fz (d : D) | ow (ds : List D)
  | ob (c : Str) (ns : List Str) (ds : List D)
  | dk (ks : List Key) (ds : List D)
  | dn (ks : List NestedKey) (ds : List D)
noncomputable def Cell.own : Cell → Bool
  | .no => false
  | .fz _ => false
  | _ => true
/-- an exception: its class, its fields -/
structure XD where
  c : Str
  ns : List Str
  cs : List Cell
inductive Res (α : Type) where
  | ok (a : α) | ex (x : XD) | stuck
namespace Res
noncomputable def bind {α β : Type} (r : Res α) (f : α → Res β) : Res β := match r with | ok a => f a | ex x => ex x | stuck => stuck
noncomputable def map {α β : Type} (f : α → β) (r : Res α) : Res β := match r with | ok a => ok (f a) | ex x => ex x | stuck => stuck
noncomputable def sat {α : Type} (r : Res α) (P : α → Prop) (E : XD → Prop) : Prop := match r with | ok a => P a | ex x => E x | stuck => False
@[simp] theorem bind_ok {α β : Type} (a : α) (f : α → Res β) : (ok a).bind f = f a := rfl
@[simp] theorem bind_ex {α β : Type} (x : XD) (f : α → Res β) : (ex x).bind f = ex x := rfl
@[simp] theorem bind_stuck {α β : Type} (f : α → Res β) : (stuck).bind f = stuck := rfl
@[simp] theorem map_ok {α β : Type} (a : α) (f : α → β) : map f (ok a) = ok (f a) := rfl
@[simp] theorem map_ex {α β : Type} (x : XD) (f : α → β) : map f (ex x) = ex x := rfl
@[simp] theorem map_stuck {α β : Type} (f : α → β) : map f (stuck : Res α) = stuck := rfl
theorem sat_mono {α : Type} {r : Res α} {P P' : α → Prop} {E E' : XD → Prop} (h : r.sat P E) (hp : ∀ a, P a → P' a) (he : ∀ x, E x → E' x) : r.sat P' E' := by
  cases r with
  | ok a => exact hp a h
  | ex x => exact he x h
  | stuck => exact h
theorem sat_bind {α β : Type} {r : Res α} {f : α → Res β} {P : β → Prop} {E : XD → Prop} (h : (r.bind f).sat P E) : r.sat (fun a => (f a).sat P E) E := by
  cases r with
  | ok a => exact h
  | ex x => exact h
  | stuck => exact h
theorem sat_map {α β : Type} {r : Res α} {f : α → β} {P : β → Prop} {E : XD → Prop} (h : (r.map f).sat P E) : r.sat (fun a => P (f a)) E := by
  cases r with
  | ok a => exact h
  | ex x => exact h
  | stuck => exact h
end Res
noncomputable abbrev DEnv := List Cell
noncomputable abbrev M (α : Type) := DEnv → Res (α × DEnv)
mutual
noncomputable def nkD : NestedKey → D
  | .none => .non
  | .num i => .int i
  | .text x => .str x
  | .tup ks => .tup (nkDs ks)
noncomputable def nkDs : List NestedKey → List D
  | [] => []
  | k :: ks => nkD k :: nkDs ks
end
/-- a dict with nested keys, its entries: the key, the key's address, the value -/
noncomputable def NDict (B : Bx) (a : Addr) (xs : List (NestedKey × Addr × Value)) : HO :=
  .ext fun h => (a == sysModules) = false ∧ xs.length ≤ sizeLine ∧ ∃ o es ep, h.get? a = some o ∧ o.ExactDict ∧ o.data = .dict es ep ∧ es.toList = xs.map (entryOfKey (nestedKind B.P B.w)) ∧ (xs.map (·.1)).Nodup
/-- the entries are, in G, these keys and values -/
noncomputable def NEnt (B : Bx) (G : Hp) : List NestedKey → List D → List (NestedKey × Addr × Value) → Prop
  | [], ds, xs => ds = [] ∧ xs = []
  | k :: ks, ds, xs => ∃ d dr x xr v, ds = d :: dr ∧ xs = x :: xr ∧ x.1 = k ∧ k.depth ≤ 8 ∧ Rep B G (nkD k) (.ref x.2.1) ∧ RelV v x.2.2 ∧ Rep B G d v ∧ NEnt B G ks dr xr
noncomputable def CellOk (B : Bx) (G H : Hp) : Cell → Option V → Prop
  | .no, _ => True
  | .fz d, o => ∃ v, o = some v ∧ Rep B G d v
  | .ow ds, o => ∃ l xs, o = some (.ref l) ∧ H l = some (.lst xs) ∧ G l = none ∧ RepL B G ds xs
  | .ob c ns ds, o => ∃ a ca dx xs, o = some (.ref a) ∧ B.mg c = some (.ref ca) ∧ H a = some (.ins ca dx (ns.zip xs)) ∧ G a = none ∧ RepL B G ds xs ∧ ns.length = ds.length
  | .dk ks ds, o => ∃ a xs, o = some (.ref a) ∧ H a = some (.dK (ks.zip xs)) ∧ G a = none ∧ RepL B G ds xs ∧ ks.length = ds.length
  | .dn ks ds, o => ∃ a xs, o = some (.ref a) ∧ H a = some (NDict B a xs) ∧ G a = none ∧ NEnt B G ks ds xs
structure SR (B : Bx) (A : Option Addr) (H0 G0 : Hp) (env : DEnv) (G : Hp) (σ : St) (H : Hp) : Prop where
  len : σ.length = env.length
  ext : Same G0 G
  same : Same G H
  new : ∀ a, G a ≠ none → G0 a = none → H0 a = none
  keep : ∀ a o, A ≠ some a → H0 a = some o → H a = some o
  cell : ∀ (i : Nat) c, env[i]? = some c → CellOk B G H c (σ[i]?.join)
  frsh : ∀ (i : Nat) c l, env[i]? = some c → c.own = true → σ[i]? = some (some (.ref l)) → H0 l = none ∨ A = some l
  dist : ∀ (i j : Nat) c c' l, env[i]? = some c → env[j]? = some c' → c.own = true → c'.own = true → σ[i]? = some (some (.ref l)) → σ[j]? = some (some (.ref l)) → i = j
  slf : ∀ a, A = some a → σ[0]? = some (some (.ref a)) ∧ ∃ c ns ds, env[0]? = some (.ob c ns ds)
section
variable {B : Bx} {G G' H H' : Hp}
theorem NEnt.mono (s : Same G G') : ∀ {ks ds xs}, NEnt B G ks ds xs → NEnt B G' ks ds xs
  | [], _, _, h => h
  | k :: ks, _, _, ⟨d, dr, x, xr, v, e1, e2, e3, hd, h1, h2, h3, h4⟩ => ⟨d, dr, x, xr, v, e1, e2, e3, hd, Rep.mono s _ _ h1, h2, Rep.mono s _ _ h3, NEnt.mono s h4⟩
/-- the frozen part grows, what is owned stays -/
theorem CellOk.step {c : Cell} {o : Option V} (h : CellOk B G H c o) (s : Same G G') (hG : ∀ l, c.own = true → o = some (.ref l) → G' l = none) (hH : ∀ l u, c.own = true → o = some (.ref l) → H l = some u → H' l = some u) : CellOk B G' H' c o := by
  cases c with
  | no => trivial
  | fz d => obtain ⟨v, e, r⟩ := h; exact ⟨v, e, Rep.mono s _ _ r⟩
  | ow ds => obtain ⟨l, xs, e, h1, h2, r⟩ := h; exact ⟨l, xs, e, hH l _ rfl e h1, hG l rfl e, RepL.mono s _ _ r⟩
  | ob c ns ds => obtain ⟨l, ca, dx, xs, e, m, h1, h2, r, z⟩ := h; exact ⟨l, ca, dx, xs, e, m, hH l _ rfl e h1, hG l rfl e, RepL.mono s _ _ r, z⟩
  | dk ks ds => obtain ⟨l, xs, e, h1, h2, r, z⟩ := h; exact ⟨l, xs, e, hH l _ rfl e h1, hG l rfl e, RepL.mono s _ _ r, z⟩
  | dn ks ds => obtain ⟨l, xs, e, h1, h2, r⟩ := h; exact ⟨l, xs, e, hH l _ rfl e h1, hG l rfl e, r.mono s⟩
theorem CellOk.addr {c : Cell} {o : Option V} (h : CellOk B G H c o) (ho : c.own = true) : ∃ l u, o = some (.ref l) ∧ H l = some u ∧ G l = none := by
  cases c with
  | no => cases ho
  | fz d => cases ho
  | ow ds => obtain ⟨l, xs, e, h1, h2, r⟩ := h; exact ⟨l, _, e, h1, h2⟩
  | ob c ns ds => obtain ⟨l, ca, dx, xs, e, m, h1, h2, r, z⟩ := h; exact ⟨l, _, e, h1, h2⟩
  | dk ks ds => obtain ⟨l, xs, e, h1, h2, r, z⟩ := h; exact ⟨l, _, e, h1, h2⟩
  | dn ks ds => obtain ⟨l, xs, e, h1, h2, r⟩ := h; exact ⟨l, _, e, h1, h2⟩
variable {A : Option Addr} {H0 G0 : Hp} {env env' : DEnv} {σ σ' : St}
theorem join_some {σ : St} {i : Nat} {v : V} (h : σ[i]?.join = some v) : σ[i]? = some (some v) := by
  cases e : σ[i]? with
  | none => rw [e] at h; cases h
  | some o => rw [e] at h; have : o = some v := h; rw [this]
theorem join_of {σ : St} {i : Nat} {v : V} (h : σ[i]? = some (some v)) : σ[i]?.join = some v := by rw [h]; rfl
/-- a step that changes nothing that stands; the frozen part takes new things in -/
theorem SR.step (S : SR B A H0 G0 env G σ H) (hs : Same G G') (hn : ∀ a, G' a ≠ none → G a = none → H a = none) (hH : Same H H') (hG : Same G' H') : SR B A H0 G0 env G' σ H' where
  len := S.len
  ext := S.ext.trans hs
  same := hG
  new := fun a h1 h2 => by
    cases e : G a with
    | some u => exact S.new a (by rw [e]; exact fun z => by cases z) h2
    | none =>
      have q := hn a h1 e
      cases e0 : H0 a with
      | none => rfl
      | some u =>
        by_cases hA : A = some a
        · obtain ⟨z, c, ns, ds, ec⟩ := S.slf a hA
          obtain ⟨l, u', e1, e2, e3⟩ := (S.cell 0 _ ec).addr rfl
          rw [join_of z] at e1; cases e1
          rw [q] at e2; cases e2
        · rw [S.keep a u hA e0] at q; cases q
  keep := fun a o h1 h2 => hH _ _ (S.keep a o h1 h2)
  cell := fun i c e => (S.cell i c e).step hs (fun l ho e1 => by
      obtain ⟨l', u, e2, h2, g2⟩ := (S.cell i c e).addr ho
      rw [e1] at e2; cases e2
      cases q : G' l with
      | none => rfl
      | some z => have := hn l (by rw [q]; exact fun z => by cases z) g2; rw [h2] at this; cases this) (fun l u _ _ h => hH _ _ h)
  frsh := S.frsh
  dist := S.dist
  slf := S.slf
/-- a new thing is laid beside -/
theorem SR.laid {p : Addr} {u : HO} (S : SR B A H0 G0 env G σ H) (hp : H p = none) : SR B A H0 G0 env G σ (upd H p u) ∧ G p = none ∧ H0 p = none ∧ (∀ (i : Nat) c, env[i]? = some c → c.own = true → σ[i]? ≠ some (some (.ref p))) := by
  have sH : Same H (upd H p u) := fun b o e => by rw [upd_ne (ne_of_none e hp)]; exact e
  have gp : G p = none := S.same.free hp
  have ho : ∀ (i : Nat) c, env[i]? = some c → c.own = true → σ[i]? ≠ some (some (.ref p)) := fun i c e ho z => by
    obtain ⟨l, u, e1, e2, e3⟩ := (S.cell i c e).addr ho
    rw [join_of z] at e1; cases e1
    rw [hp] at e2; cases e2
  refine ⟨S.step (Same.refl _) (fun a h1 h2 => (h1 h2).elim) sH (S.same.trans sH), gp, ?_, ho⟩
  cases e0 : H0 p with
  | none => rfl
  | some o =>
    by_cases hA : A = some p
    · obtain ⟨z, c, ns, ds, ec⟩ := S.slf p hA
      exact (ho 0 _ ec rfl z).elim
    · rw [S.keep p o hA e0] at hp; cases hp
/-- .. and frozen at once -/
theorem SR.frozen {p : Addr} {u : HO} (S : SR B A H0 G0 env G σ H) (hp : H p = none) : SR B A H0 G0 env (upd G p u) σ (upd H p u) ∧ Same G (upd G p u) := by
  have sH : Same H (upd H p u) := fun b o e => by rw [upd_ne (ne_of_none e hp)]; exact e
  have gp : G p = none := S.same.free hp
  have sG : Same G (upd G p u) := fun b o e => by rw [upd_ne (ne_of_none e gp)]; exact e
  refine ⟨S.step sG (fun a h1 h2 => ?_) sH (fun b o e => ?_), sG⟩
  · by_cases ha : a = p
    · rw [ha]; exact hp
    · rw [upd_ne ha] at h1; exact (h1 h2).elim
  · by_cases hb : b = p
    · rw [hb] at e ⊢; rw [upd_same] at e ⊢; exact e
    · rw [upd_ne hb] at e ⊢; exact S.same _ _ e
/-- a value at hand -/
structure Val (B : Bx) (H0 : Hp) (env : DEnv) (G : Hp) (σ : St) (H : Hp) (c : Cell) (v : V) : Prop where
  cell : CellOk B G H c (some v)
  frsh : ∀ l, c.own = true → v = .ref l → H0 l = none ∧ ∀ (i : Nat) c', env[i]? = some c' → c'.own = true → σ[i]? ≠ some (some (.ref l))
/-- what is owned is frozen -/
theorem SR.freezeAt {l : Addr} {u : HO} (S : SR B A H0 G0 env G σ H) (hl : H l = some u) (h0 : H0 l = none) (hg : G l = none) (hd : ∀ (i : Nat) c, env[i]? = some c → c.own = true → σ[i]? ≠ some (some (.ref l))) : SR B A H0 G0 env (upd G l u) σ H ∧ Same G (upd G l u) := by
  have sG : Same G (upd G l u) := fun b o e => by rw [upd_ne (ne_of_none e hg)]; exact e
  refine ⟨⟨S.len, S.ext.trans sG, fun b o e => ?_, fun a h1 h2 => ?_, S.keep, fun i c e => (S.cell i c e).step sG (fun l' ho e1 => ?_) (fun _ _ _ _ h => h), S.frsh, S.dist, S.slf⟩, sG⟩
  · by_cases hb : b = l
    · rw [hb] at e ⊢; rw [upd_same] at e; rw [hl]; exact e
    · rw [upd_ne hb] at e; exact S.same _ _ e
  · by_cases ha : a = l
    · rw [ha]; exact h0
    · rw [upd_ne ha] at h1; exact S.new a h1 h2
  · obtain ⟨l2, u2, e2, h2, g2⟩ := (S.cell i c e).addr ho
    rw [e1] at e2; cases e2
    have hne : l' ≠ l := fun z => hd i c e ho (by rw [← z]; exact join_some e1)
    rw [upd_ne hne]; exact g2
end
end DL
namespace DL
open PySem L2
/-- cells at hand, one for each value -/
noncomputable def CellsV (B : Bx) (H0 G H : Hp) : List Cell → List V → Prop
  | [], xs => xs = []
  | c :: cs, xs => ∃ x r, xs = x :: r ∧ CellOk B G H c (some x) ∧ (c.own = true → ∀ l, x = .ref l → H0 l = none) ∧ CellsV B H0 G H cs r
/-- an exception's object: its class, its fields in its own dict -/
noncomputable def RepX (B : Bx) (H0 G H : Hp) (x : XD) (od : Option Addr) : Prop :=
  (x.ns = [] ∧ x.cs = []) ∨ ∃ d xs, od = some d ∧ H d = some (.xd (x.ns.zip xs)) ∧ H0 d = none ∧ CellsV B H0 G H x.cs xs ∧ x.ns.length = x.cs.length
noncomputable def XOk (B : Bx) (A : Option Addr) (H0 G0 : Hp) (EA : XK) (x : XD) : Prop :=
  ∀ (ca : Addr) (od : Option Addr) (G' H' : Hp), B.mg x.c = some (.ref ca) → Same G0 G' → Same G' H' → (∀ a, G' a ≠ none → G0 a = none → H0 a = none) → (∀ a o, A ≠ some a → H0 a = some o → H' a = some o) →
    RepX B H0 G' H' x od → EA (.ref ca) od H'
/-- a value that is frozen -/
noncomputable def tF (B : Bx) (EA : XK) (g : M D) : TE := fun σ H Q => ∃ A H0 G0 env G, SR B A H0 G0 env G σ H ∧
  (g env).sat (fun r => ∀ v G' H', SR B A H0 G0 r.2 G' σ H' → Same G G' → Rep B G' r.1 v → Q v H') (XOk B A H0 G0 EA)
/-- a value of any kind -/
noncomputable def tE (B : Bx) (EA : XK) (g : M Cell) : TE := fun σ H Q => ∃ A H0 G0 env G, SR B A H0 G0 env G σ H ∧
  (g env).sat (fun r => ∀ v G' H', SR B A H0 G0 r.2 G' σ H' → Same G G' → Val B H0 r.2 G' σ H' r.1 v → Q v H') (XOk B A H0 G0 EA)
noncomputable def tT (B : Bx) (EA : XK) (g : M Bool) : TT := fun σ H Q => ∃ A H0 G0 env G, SR B A H0 G0 env G σ H ∧
  (g env).sat (fun r => ∀ G' H', SR B A H0 G0 r.2 G' σ H' → Same G G' → Q r.1 H') (XOk B A H0 G0 EA)
noncomputable def tAr (B : Bx) (EA : XK) (g : M (List D)) : TA := fun σ H Q => ∃ A H0 G0 env G, SR B A H0 G0 env G σ H ∧
  (g env).sat (fun r => ∀ vs G' H', SR B A H0 G0 r.2 G' σ H' → Same G G' → RepL B G' r.1 vs → Q vs H') (XOk B A H0 G0 EA)
/-- a list that is read: frozen, owned or the script -/
noncomputable def tQ (B : Bx) (EA : XK) (g : M (List D)) : TE := fun σ H Q => ∃ A H0 G0 env G, SR B A H0 G0 env G σ H ∧
  (g env).sat (fun r => ∀ l xs G' H', SR B A H0 G0 r.2 G' σ H' → Same G G' → SqL B.K H' l xs → RepL B G' r.1 xs → Q (.ref l) H') (XOk B A H0 G0 EA)
noncomputable abbrev DF (X : Cx) (EA : XK) (e : Expr) (g : M D) : Prop := PE X e (tF (bx X) EA g)
noncomputable abbrev DE (X : Cx) (EA : XK) (e : Expr) (g : M Cell) : Prop := PE X e (tE (bx X) EA g)
noncomputable abbrev DT (X : Cx) (EA : XK) (e : Expr) (g : M Bool) : Prop := PT X e (tT (bx X) EA g)
noncomputable abbrev DW (X : Cx) (EA : XK) (e : Expr) (g : M Bool) : Prop := PW X e (tT (bx X) EA g)
noncomputable abbrev DA (X : Cx) (EA : XK) (es : List Expr) (g : M (List D)) : Prop := PA X es (tAr (bx X) EA g)
noncomputable abbrev DQ (X : Cx) (EA : XK) (e : Expr) (g : M (List D)) : Prop := PE X e (tQ (bx X) EA g)
theorem pe_imp {X : Cx} {e : Expr} {t t' : TE} (h : PE X e t) (hi : ∀ σ H Q, t' σ H Q → t σ H Q) : PE X e t' := ⟨fun pins s σ H Q I hw => h.run pins s σ H Q I (hi _ _ _ hw)⟩
theorem pt_imp {X : Cx} {e : Expr} {t t' : TT} (h : PT X e t) (hi : ∀ σ H Q, t' σ H Q → t σ H Q) : PT X e t' := ⟨fun pins s σ H Q I hw => h.run pins s σ H Q I (hi _ _ _ hw)⟩
theorem pw_imp {X : Cx} {e : Expr} {t t' : TT} (h : PW X e t) (hi : ∀ σ H Q, t' σ H Q → t σ H Q) : PW X e t' := ⟨fun wh pins s σ H Q I hw => h.run wh pins s σ H Q I (hi _ _ _ hw)⟩
theorem pa_imp {X : Cx} {es : List Expr} {t t' : TA} (h : PA X es t) (hi : ∀ σ H Q, t' σ H Q → t σ H Q) : PA X es t' := ⟨fun pos pins s σ H Q I hw => h.run pos pins s σ H Q I (hi _ _ _ hw)⟩
noncomputable def optR {α : Type} : Option α → Res α
  | some a => .ok a
  | none => .stuck
@[simp] theorem optR_some {α : Type} (a : α) : optR (some a) = .ok a := rfl
@[simp] theorem optR_none {α : Type} : (optR none : Res α) = .stuck := rfl
theorem optR_sat {α : Type} {o : Option α} {P E} (h : (optR o).sat P E) : ∃ a, o = some a ∧ P a := by
  cases o with
  | none => exact h.elim
  | some a => exact ⟨a, rfl, h⟩
noncomputable def mPure {α : Type} (a : α) : M α := fun env => .ok (a, env)
noncomputable def mMap {α β : Type} (h : α → β) (f : M α) : M β := fun env => (f env).map fun p => (h p.1, p.2)
noncomputable def mOpt {α β : Type} (h : α → Option β) (f : M α) : M β := fun env => (f env).bind fun p => (optR (h p.1)).map fun d => (d, p.2)
noncomputable def mOpt2 {α β γ : Type} (h : α → β → Option γ) (f : M α) (g : M β) : M γ := fun env => (f env).bind fun p => (g p.2).bind fun q => (optR (h p.1 q.1)).map fun d => (d, q.2)
section
variable {B : Bx} {EA : XK} {A : Option Addr} {H0 G0 : Hp} {env : DEnv} {G : Hp} {σ : St} {H : Hp}
/-- one part -/
theorem seq1 {f : M D} {β : Type} {k : D → DEnv → Res β} {P : β → Prop} {R : V → Hp → Prop} (S : SR B A H0 G0 env G σ H)
    (h : ((f env).bind fun p => k p.1 p.2).sat P (XOk B A H0 G0 EA))
    (hk : ∀ x G1 H1 a e1, SR B A H0 G0 e1 G1 σ H1 → Same G G1 → Rep B G1 a x → (k a e1).sat P (XOk B A H0 G0 EA) → R x H1) : tF B EA f σ H R :=
  ⟨A, H0, G0, env, G, S, Res.sat_mono (Res.sat_bind h) (fun p hp x G1 H1 S1 s1 r1 => hk x G1 H1 _ _ S1 s1 r1 hp) fun _ z => z⟩
/-- two parts -/
theorem seq2 {f g : M D} {β : Type} {k : D → D → DEnv → Res β} {P : β → Prop} {R : V → V → Hp → Prop} (S : SR B A H0 G0 env G σ H)
    (h : ((f env).bind fun p => (g p.2).bind fun q => k p.1 q.1 q.2).sat P (XOk B A H0 G0 EA))
    (hk : ∀ x y G2 H2 a b e2, SR B A H0 G0 e2 G2 σ H2 → Same G G2 → Rep B G2 a x → Rep B G2 b y → (k a b e2).sat P (XOk B A H0 G0 EA) → R x y H2) :
    tF B EA f σ H fun x H1 => tF B EA g σ H1 fun y H2 => R x y H2 :=
  seq1 (k := fun a e1 => (g e1).bind fun q => k a q.1 q.2) S h fun x G1 H1 a e1 S1 s1 r1 h1 =>
    seq1 (k := fun b e2 => k a b e2) S1 h1 fun y G2 H2 b e2 S2 s2 r2 h2 => hk x y G2 H2 a b e2 S2 (s1.trans s2) (Rep.mono s2 _ _ r1) r2 h2
end
section
variable {X : Cx} {EA : XK} {a b c e : Expr} {pos : Pos}
noncomputable def gVar (i : Nat) : M D := fun env => match env[i]? with
  | some (.fz d) => .ok (d, env)
  | some (.ow ds) => .ok (.lst ds, env.set i (.fz (.lst ds)))
  | some (.ob c ns ds) => if i = 0 then .stuck else .ok (.obj c ns ds, env.set i (.fz (.obj c ns ds)))
  | _ => .stuck
/-- what a slot owns is frozen -/
theorem SR.freezeSlot {B : Bx} {A H0 G0 env G σ H} {i : Nat} {c : Cell} {d : D} {l : Addr} {u : HO} (S : SR B A H0 G0 env G σ H) (e : env[i]? = some c) (ho : c.own = true) (el : σ[i]? = some (some (.ref l))) (h1 : H l = some u) (hA : A ≠ some l) (hR : Rep B (upd G l u) d (.ref l)) :
    SR B A H0 G0 (env.set i (.fz d)) (upd G l u) σ H ∧ Same G (upd G l u) := by
  obtain ⟨l', u', e1, h1', h2⟩ := (S.cell i c e).addr ho
  rw [join_of el] at e1; cases e1
  have sG : Same G (upd G l u) := fun b o e => by rw [upd_ne (ne_of_none e h2)]; exact e
  have h0 : H0 l = none := (S.frsh i _ l e ho el).elim id fun z => (hA z).elim
  have ilt : i < env.length := (List.getElem?_eq_some_iff.mp e).1
  refine ⟨⟨by rw [List.length_set]; exact S.len, S.ext.trans sG, fun b o e => ?_, fun a h1 h2 => ?_, S.keep, fun j c ej => ?_, fun j c l' ej ho e1 => ?_, fun j k c c' l' ej ek hc hc' e1 e2 => ?_, fun a ha => ?_⟩, sG⟩
  · by_cases hb : b = l
    · rw [hb] at e ⊢; rw [upd_same] at e; rw [h1]; exact e
    · rw [upd_ne hb] at e; exact S.same _ _ e
  · by_cases ha : a = l
    · rw [ha]; exact h0
    · rw [upd_ne ha] at h1; exact S.new a h1 h2
  · by_cases hij : i = j
    · subst hij
      rw [List.getElem?_set_self ilt] at ej; cases ej
      exact ⟨_, join_of el, hR⟩
    · rw [List.getElem?_set_ne hij] at ej
      refine (S.cell j c ej).step sG (fun l' ho' e1 => ?_) (fun _ _ _ _ h => h)
      obtain ⟨l2, u2, e2, h2', g2⟩ := (S.cell j c ej).addr ho'
      rw [e1] at e2; cases e2
      have hne : l' ≠ l := fun z => by subst z; exact hij (S.dist i j _ _ _ e ej ho ho' el (join_some e1))
      rw [upd_ne hne]; exact g2
  · by_cases hij : i = j
    · subst hij
      rw [List.getElem?_set_self ilt] at ej; cases ej; cases ho
    · rw [List.getElem?_set_ne hij] at ej; exact S.frsh j c l' ej ho e1
  · have hj : i ≠ j := fun z => by subst z; rw [List.getElem?_set_self ilt] at ej; cases ej; cases hc
    have hk : i ≠ k := fun z => by subst z; rw [List.getElem?_set_self ilt] at ek; cases ek; cases hc'
    rw [List.getElem?_set_ne hj] at ej; rw [List.getElem?_set_ne hk] at ek
    exact S.dist j k c c' l' ej ek hc hc' e1 e2
  · obtain ⟨z1, c', ns, ds', ec⟩ := S.slf a ha
    refine ⟨z1, c', ns, ds', ?_⟩
    have h0i : i ≠ 0 := fun z => by
      subst z
      rw [z1] at el; cases el
      exact hA ha
    rw [List.getElem?_set_ne h0i]; exact ec
/-- the own object of a method stands in the first slot -/
theorem SR.notA {B : Bx} {A H0 G0 env G σ H} {i : Nat} {c : Cell} {l : Addr} (S : SR B A H0 G0 env G σ H) (e : env[i]? = some c) (ho : c.own = true) (el : σ[i]? = some (some (.ref l))) (h : i ≠ 0 ∨ ∀ a b d, c ≠ .ob a b d) : A ≠ some l := fun z => by
  obtain ⟨z1, c', ns, ds', ec⟩ := S.slf l z
  have := S.dist 0 i _ _ l ec e rfl ho z1 el
  subst this
  rcases h with h | h
  · exact h rfl
  · rw [ec] at e; cases e; exact h _ _ _ rfl
theorem df_var {i : Nat} {x : Str} (h : PE X (.Name x pos) (tVar i)) : DF X EA (.Name x pos) (gVar i) := by
  refine pe_imp h fun σ H Q ⟨A, H0, G0, env, G, S, h⟩ => ?_
  unfold gVar at h
  split at h
  · rename_i d e
    obtain ⟨v, ev, r⟩ := S.cell i _ e
    exact ⟨v, join_some ev, h v G H S (Same.refl _) r⟩
  · rename_i ds e
    obtain ⟨l, xs, ev, h1, h2, r⟩ := S.cell i _ e
    have ei := join_some ev
    have sG : Same G (upd G l (.lst xs)) := fun b o e => by rw [upd_ne (ne_of_none e h2)]; exact e
    have rr : Rep (bx X) (upd G l (.lst xs)) (.lst ds) (.ref l) := ⟨l, xs, rfl, upd_same, RepL.mono sG _ _ r⟩
    obtain ⟨S2, s2⟩ := S.freezeSlot e rfl ei h1 (S.notA e rfl ei (.inr (by intro a b d z; cases z))) rr
    exact ⟨_, ei, h _ _ H S2 s2 rr⟩
  · rename_i c ns ds e
    split at h
    · exact h.elim
    · rename_i hi
      obtain ⟨l, ca, dx, xs, ev, mm, h1, h2, r, z⟩ := S.cell i _ e
      have ei := join_some ev
      have sG : Same G (upd G l (.ins ca dx (ns.zip xs))) := fun b o e => by rw [upd_ne (ne_of_none e h2)]; exact e
      have rr : Rep (bx X) (upd G l (.ins ca dx (ns.zip xs))) (.obj c ns ds) (.ref l) := ⟨l, ca, dx, xs, rfl, mm, upd_same, RepL.mono sG _ _ r, z⟩
      obtain ⟨S2, s2⟩ := S.freezeSlot e rfl ei h1 (S.notA e rfl ei (.inl hi)) rr
      exact ⟨_, ei, h _ _ H S2 s2 rr⟩
  · exact h.elim
noncomputable def gC (d : D) : M D := fun env => .ok (d, env)
theorem df_const {v : V} {d : D} (h : PE X e (tC v)) (r : ∀ G, Rep (bx X) G d v) : DF X EA e (gC d) := by
  refine pe_imp h fun σ H Q ⟨A, H0, G0, env, G, S, h⟩ => ?_
  exact h v G H S (Same.refl _) (r G)
theorem df_int {i j} : DF X EA (.Constant (.int i) j pos) (gC (.int i)) := df_const pe_int fun _ => rfl
theorem df_bl {i j} : DF X EA (.Constant (.bool i) j pos) (gC (.bl i)) := df_const pe_bl fun _ => rfl
theorem df_str {x j} : DF X EA (.Constant (.str x) j pos) (gC (.str x)) := df_const pe_str fun _ => rfl
theorem df_op {op : Operator} {r : R2} {f g : M D} (ho : OpR X (binaryOp op) r) (h : D → D → Option D)
    (hr : ∀ G H x y a b d (Q : VK), Rep (bx X) G a x → Rep (bx X) G b y → h a b = some d → (∀ v, Rep (bx X) G d v → Q v H) → r x y H Q)
    (ha : DF X EA a f) (hb : DF X EA b g) : DF X EA (.BinOp a op b pos) (mOpt2 h f g) := by
  refine pe_imp (pe_op ho ha hb) fun σ H Q ⟨A, H0, G0, env, G, S, h1⟩ => ?_
  refine seq2 (k := fun a b e2 => (optR (h a b)).map fun d => (d, e2)) S h1 fun x y G2 H2 a b e2 S2 s2 r1 r2 h2 => ?_
  obtain ⟨d, ed, h3⟩ := optR_sat (Res.sat_map h2)
  exact hr G2 H2 x y a b d Q r1 r2 ed fun v rv => h3 v G2 H2 S2 s2 rv
theorem df_un {op : UnaryOp} {r : V → Hp → VK → Prop} {f : M D} (ho : UnR X (unaryOp op) r) (h : D → Option D)
    (hr : ∀ G H x a d (Q : VK), Rep (bx X) G a x → h a = some d → (∀ v, Rep (bx X) G d v → Q v H) → r x H Q)
    (ha : DF X EA a f) : DF X EA (.UnaryOp op a pos) (mOpt h f) := by
  refine pe_imp (pe_un ho ha) fun σ H Q ⟨A, H0, G0, env, G, S, h1⟩ => ?_
  refine seq1 (k := fun a e2 => (optR (h a)).map fun d => (d, e2)) S h1 fun x G2 H2 a e2 S2 s2 r1 h2 => ?_
  obtain ⟨d, ed, h3⟩ := optR_sat (Res.sat_map h2)
  exact hr G2 H2 x a d Q r1 ed fun v rv => h3 v G2 H2 S2 s2 rv
noncomputable def hAdd : D → D → Option D
  | .int i, .int j => some (.int (i + j))
  | .str x, .str y => if x.length + y.length ≤ sizeLine then some (.str (x ++ y)) else none
  | _, _ => none
noncomputable def hSub : D → D → Option D
  | .int i, .int j => some (.int (i - j))
  | _, _ => none
noncomputable def hMul : D → D → Option D
  | .int i, .int j => if (-(2 ^ 64) < i ∧ i < 2 ^ 64) ∨ (-(2 ^ 64) < j ∧ j < 2 ^ 64) then some (.int (i * j)) else none
  | _, _ => none
noncomputable def hMod : D → D → Option D
  | .int i, .int j => if 0 < j then some (.int (i % j)) else none
  | _, _ => none
noncomputable def hFdiv : D → D → Option D
  | .int i, .int j => if 0 < j ∧ j < 1073741824 then some (.int (i / j)) else none
  | _, _ => none
noncomputable def hShr : D → D → Option D
  | .int i, .int j => if 0 ≤ j then some (.int (i / 2 ^ j.toNat)) else none
  | _, _ => none
noncomputable def hPow : D → D → Option D
  | .int i, .int j => if 0 ≤ j ∧ j ≤ 1000000 ∧ i.natAbs < 2 ^ 64 then some (.int (i ^ j.toNat)) else none
  | _, _ => none
variable {f g k : M D}
theorem df_add (ha : DF X EA a f) (hb : DF X EA b g) : DF X EA (.BinOp a .Add b pos) (mOpt2 hAdd f g) :=
  df_op (op_add.or op_add_str) hAdd (fun G H x y a b d Q r1 r2 h q => by
    cases a <;> cases b <;> simp only [hAdd] at h <;> try (cases h; done)
    · cases r1; cases r2; cases h; exact .inl ⟨_, _, rfl, rfl, q _ rfl⟩
    · split at h
      · rename_i hl; cases r1; cases r2; cases h; exact .inr ⟨_, _, rfl, rfl, hl, q _ rfl⟩
      · cases h) ha hb
theorem df_sub (ha : DF X EA a f) (hb : DF X EA b g) : DF X EA (.BinOp a .Sub b pos) (mOpt2 hSub f g) :=
  df_op op_sub hSub (fun G H x y a b d Q r1 r2 h q => by
    cases a <;> cases b <;> simp only [hSub] at h <;> try (cases h; done)
    · cases r1; cases r2; cases h; exact ⟨_, _, rfl, rfl, q _ rfl⟩) ha hb
theorem df_mul (ha : DF X EA a f) (hb : DF X EA b g) : DF X EA (.BinOp a .Mult b pos) (mOpt2 hMul f g) :=
  df_op op_mul hMul (fun G H x y a b d Q r1 r2 h q => by
    cases a <;> cases b <;> simp only [hMul] at h <;> try (cases h; done)
    · split at h
      · rename_i hl; cases r1; cases r2; cases h; exact ⟨_, _, rfl, rfl, hl, q _ rfl⟩
      · cases h) ha hb
theorem df_mod (ha : DF X EA a f) (hb : DF X EA b g) : DF X EA (.BinOp a .Mod b pos) (mOpt2 hMod f g) :=
  df_op op_mod hMod (fun G H x y a b d Q r1 r2 h q => by
    cases a <;> cases b <;> simp only [hMod] at h <;> try (cases h; done)
    · split at h
      · rename_i hl; cases r1; cases r2; cases h; exact ⟨_, _, rfl, rfl, hl, q _ rfl⟩
      · cases h) ha hb
theorem df_fdiv (ha : DF X EA a f) (hb : DF X EA b g) : DF X EA (.BinOp a .FloorDiv b pos) (mOpt2 hFdiv f g) :=
  df_op op_fdiv hFdiv (fun G H x y a b d Q r1 r2 h q => by
    cases a <;> cases b <;> simp only [hFdiv] at h <;> try (cases h; done)
    · split at h
      · rename_i hl; cases r1; cases r2; cases h; exact ⟨_, _, rfl, rfl, hl, q _ rfl⟩
      · cases h) ha hb
theorem df_shr (ha : DF X EA a f) (hb : DF X EA b g) : DF X EA (.BinOp a .RShift b pos) (mOpt2 hShr f g) :=
  df_op op_shr hShr (fun G H x y a b d Q r1 r2 h q => by
    cases a <;> cases b <;> simp only [hShr] at h <;> try (cases h; done)
    · split at h
      · rename_i hl; cases r1; cases r2; cases h; exact ⟨_, _, rfl, rfl, hl, q _ rfl⟩
      · cases h) ha hb
theorem df_pow (ha : DF X EA a f) (hb : DF X EA b g) : DF X EA (.BinOp a .Pow b pos) (mOpt2 hPow f g) :=
  df_op op_pow hPow (fun G H x y a b d Q r1 r2 h q => by
    cases a <;> cases b <;> simp only [hPow] at h <;> try (cases h; done)
    · split at h
      · rename_i hl; cases r1; cases r2; cases h; exact ⟨_, _, rfl, rfl, hl, q _ rfl⟩
      · cases h) ha hb
noncomputable def hNeg : D → Option D
  | .int i => some (.int (-i))
  | _ => none
theorem df_neg (ha : DF X EA a f) : DF X EA (.UnaryOp .USub a pos) (mOpt hNeg f) :=
  df_un un_neg hNeg (fun G H x a d Q r1 h q => by
    cases a <;> simp only [hNeg] at h <;> try (cases h; done)
    · cases r1; cases h; exact ⟨_, rfl, q _ rfl⟩) ha
theorem df_cmp {op : CmpOp} {r : R2} (ho : OpR X (compareOp op) r) (h : D → D → Option Bool)
    (hr : ∀ G H x y a b k (Q : VK), Same G H → Rep (bx X) G a x → Rep (bx X) G b y → h a b = some k → Q (.bl k) H → r x y H Q)
    (ha : DF X EA a f) (hb : DF X EA b g) (hm : behindInMarks op b = false) : DF X EA (.Compare a [op] [b] pos) (mMap D.bl (mOpt2 h f g)) := by
  refine pe_imp (pe_cmpR ho ha hb hm) fun σ H Q ⟨A, H0, G0, env, G, S, h1⟩ => ?_
  refine seq2 (k := fun a b e2 => (optR (h a b)).map fun d => (d, e2)) S (Res.sat_map h1) fun x y G2 H2 a b e2 S2 s2 r1 r2 h2 => ?_
  obtain ⟨d, ed, h3⟩ := optR_sat (Res.sat_map h2)
  exact hr G2 H2 x y a b d Q S2.same r1 r2 ed (h3 _ G2 H2 S2 s2 rfl)
theorem dt_cmp {op : CmpOp} {r : R2} (ho : OpR X (compareOp op) r) (h : D → D → Option Bool)
    (hr : ∀ G H x y a b k (Q : VK), Same G H → Rep (bx X) G a x → Rep (bx X) G b y → h a b = some k → Q (.bl k) H → r x y H Q)
    (ha : DF X EA a f) (hb : DF X EA b g) (hm : behindInMarks op b = false) : DT X EA (.Compare a [op] [b] pos) (mOpt2 h f g) := by
  refine pt_imp (pt_cmpR ho ha hb hm) fun σ H Q ⟨A, H0, G0, env, G, S, h1⟩ => ?_
  refine seq2 (k := fun a b e2 => (optR (h a b)).map fun d => (d, e2)) S h1 fun x y G2 H2 a b e2 S2 s2 r1 r2 h2 => ?_
  obtain ⟨d, ed, h3⟩ := optR_sat (Res.sat_map h2)
  exact hr G2 H2 x y a b d _ S2.same r1 r2 ed ⟨d, rfl, h3 G2 H2 S2 s2⟩
/-- a comparison's rule on data -/
structure CmpD (X : Cx) (op : CmpOp) (h : D → D → Option Bool) : Prop where
  ex : ∃ r : R2, OpR X (compareOp op) r ∧ ∀ G H x y a b k (Q : VK), Same G H → Rep (bx X) G a x → Rep (bx X) G b y → h a b = some k → Q (.bl k) H → r x y H Q
theorem df_cmpD {op : CmpOp} {h : D → D → Option Bool} (c : CmpD X op h) (ha : DF X EA a f) (hb : DF X EA b g) (hm : behindInMarks op b = false := by first | exact nomark _ | with_unfolding_all rfl) : DF X EA (.Compare a [op] [b] pos) (mMap D.bl (mOpt2 h f g)) := by
  obtain ⟨r, ho, hr⟩ := c.ex
  exact df_cmp ho h hr ha hb hm
theorem dt_cmpD {op : CmpOp} {h : D → D → Option Bool} (c : CmpD X op h) (ha : DF X EA a f) (hb : DF X EA b g) (hm : behindInMarks op b = false := by first | exact nomark _ | with_unfolding_all rfl) : DT X EA (.Compare a [op] [b] pos) (mOpt2 h f g) := by
  obtain ⟨r, ho, hr⟩ := c.ex
  exact dt_cmp ho h hr ha hb hm
noncomputable def hLt : D → D → Option Bool
  | .int i, .int j => some (decide (i < j))
  | .str x, .str y => some (decide (x.cps.toList < y.cps.toList))
  | _, _ => none
noncomputable def hLe : D → D → Option Bool
  | .int i, .int j => some (decide (i ≤ j))
  | _, _ => none
noncomputable def hGt : D → D → Option Bool
  | .int i, .int j => some (decide (j < i))
  | _, _ => none
noncomputable def hGe : D → D → Option Bool
  | .int i, .int j => some (decide (j ≤ i))
  | _, _ => none
noncomputable def hEqS : D → D → Option Bool
  | .int i, .int j => some (decide (i = j))
  | .str i, .str j => some (decide (i = j))
  | .bl i, .bl j => some (decide (i = j))
  | .non, .non => some true
  | .non, .int _ => some false
  | .int _, .non => some false
  | .non, .str _ => some false
  | .str _, .non => some false
  | .int _, .str _ => some false
  | .str _, .int _ => some false
  | _, _ => none
noncomputable def hNeS (a b : D) : Option Bool := (hEqS a b).map (!·)
theorem cd_lt : CmpD X .Lt hLt := ⟨_, op_lt.or op_lt_str, fun G H x y a b k Q sm r1 r2 h q => by
  cases a <;> cases b <;> simp only [hLt] at h <;> try (cases h; done)
  · cases r1; cases r2; cases h; exact .inl ⟨_, _, rfl, rfl, q⟩
  · cases r1; cases r2; cases h; exact .inr ⟨_, _, rfl, rfl, q⟩⟩
theorem cd_le : CmpD X .LtE hLe := ⟨_, op_le, fun G H x y a b k Q sm r1 r2 h q => by
  cases a <;> cases b <;> simp only [hLe] at h <;> try (cases h; done)
  · cases r1; cases r2; cases h; exact ⟨_, _, rfl, rfl, q⟩⟩
theorem cd_gt : CmpD X .Gt hGt := ⟨_, op_gt, fun G H x y a b k Q sm r1 r2 h q => by
  cases a <;> cases b <;> simp only [hGt] at h <;> try (cases h; done)
  · cases r1; cases r2; cases h; exact ⟨_, _, rfl, rfl, q⟩⟩
theorem cd_ge : CmpD X .GtE hGe := ⟨_, op_ge, fun G H x y a b k Q sm r1 r2 h q => by
  cases a <;> cases b <;> simp only [hGe] at h <;> try (cases h; done)
  · cases r1; cases r2; cases h; exact ⟨_, _, rfl, rfl, q⟩⟩
theorem cd_eqS : CmpD X .Eq hEqS := ⟨_, op_eq, fun G H x y a b k Q sm r1 r2 h q => by
  cases a <;> cases b <;> simp only [hEqS] at h <;> try (cases h; done)
  all_goals (cases r1; cases r2; cases h; exact ⟨rfl, by simpa using q⟩)⟩
theorem cd_neS : CmpD X .NotEq hNeS := ⟨_, op_ne, fun G H x y a b k Q sm r1 r2 h q => by
  cases a <;> cases b <;> simp only [hNeS, hEqS] at h <;> try (cases h; done)
  all_goals (cases r1; cases r2; cases h; exact ⟨rfl, by simpa using q⟩)⟩
/-- a op b op' c -/
noncomputable def gChain (h h' : D → D → Option Bool) (f g k : M D) : M Bool := fun env => (f env).bind fun p => (g p.2).bind fun q => (optR (h p.1 q.1)).bind fun b =>
  if b = true then (k q.2).bind fun r => (optR (h' q.1 r.1)).map fun d => (d, r.2) else .ok (false, q.2)
theorem chain_sem {r r' : R2} {h h' : D → D → Option Bool} (hr : ∀ G H x y a b k (Q : VK), Same G H → Rep (bx X) G a x → Rep (bx X) G b y → h a b = some k → Q (.bl k) H → r x y H Q)
    (hr' : ∀ G H x y a b k (Q : VK), Same G H → Rep (bx X) G a x → Rep (bx X) G b y → h' a b = some k → Q (.bl k) H → r' x y H Q) {σ : St} {H : Hp} {Q : VK} {A H0 G0 env G} (S : SR (bx X) A H0 G0 env G σ H)
    (h1 : (gChain h h' f g k env).sat (fun r => ∀ G' H', SR (bx X) A H0 G0 r.2 G' σ H' → Same G G' → Q (.bl r.1) H') (XOk (bx X) A H0 G0 EA)) : tChain r r' (tF (bx X) EA f) (tF (bx X) EA g) (tF (bx X) EA k) σ H Q := by
  refine seq2 (k := fun a b e2 => (optR (h a b)).bind fun c => if c = true then (k e2).bind fun r => (optR (h' b r.1)).map fun d => (d, r.2) else .ok (false, e2)) S h1 fun x y G2 H2 a b e2 S2 s2 r1 r2 h2 => ?_
  obtain ⟨c, ec, h3⟩ := optR_sat (Res.sat_bind h2)
  refine hr G2 H2 x y a b c _ S2.same r1 r2 ec ⟨c, rfl, ?_⟩
  cases c with
  | false => exact h3 G2 H2 S2 s2
  | true =>
    rw [if_pos rfl] at h3 ⊢
    refine seq1 (k := fun d e3 => (optR (h' b d)).map fun z => (z, e3)) S2 h3 fun z G3 H3 d e3 S3 s3 r3 h4 => ?_
    obtain ⟨q, eq, h5⟩ := optR_sat (Res.sat_map h4)
    exact hr' G3 H3 y z b d q _ S3.same (Rep.mono s3 _ _ r2) r3 eq (h5 G3 H3 S3 (s2.trans s3))
theorem df_chain {op op' : CmpOp} {h h' : D → D → Option Bool} (c1 : CmpD X op h) (c2 : CmpD X op' h') (ha : DF X EA a f) (hb : DF X EA b g) (hc : DF X EA c k) (hm : lastMarks [op, op'] [b, c] = false := by with_unfolding_all rfl) : DF X EA (.Compare a [op, op'] [b, c] pos) (mMap D.bl (gChain h h' f g k)) := by
  obtain ⟨r, ho, hr⟩ := c1.ex
  obtain ⟨r', ho', hr'⟩ := c2.ex
  refine pe_imp (pe_chain ho ho' ha hb hc hm) fun σ H Q ⟨A, H0, G0, env, G, S, h1⟩ => ?_
  exact chain_sem hr hr' S (Res.sat_mono (Res.sat_map h1) (fun p hp G' H' S' s' => hp _ G' H' S' s' rfl) fun _ z => z)
theorem dt_chain {op op' : CmpOp} {h h' : D → D → Option Bool} (c1 : CmpD X op h) (c2 : CmpD X op' h') (ha : DF X EA a f) (hb : DF X EA b g) (hc : DF X EA c k) (hm : lastMarks [op, op'] [b, c] = false := by with_unfolding_all rfl) : DT X EA (.Compare a [op, op'] [b, c] pos) (gChain h h' f g k) := by
  obtain ⟨r, ho, hr⟩ := c1.ex
  obtain ⟨r', ho', hr'⟩ := c2.ex
  refine pt_imp (pt_chain ho ho' ha hb hc hm) fun σ H Q ⟨A, H0, G0, env, G, S, h1⟩ => ?_
  exact chain_sem hr hr' S (Res.sat_mono h1 (fun p hp G' H' S' s' => ⟨_, rfl, hp G' H' S' s'⟩) fun _ z => z)
noncomputable def hBl : D → Option Bool
  | .bl b => some b
  | _ => none
/-- an expression whose value is a bool, as a test -/
theorem dt_val (ha : DF X EA a f) (he : ∀ whole, isTrue a X.env whole = (do let v ← whole; standAt a.pos; holding [v] (truthy v)) := by intro _; rfl) : DT X EA a (mOpt hBl f) := by
  refine pt_imp (pt_val ha he) fun σ H Q ⟨A, H0, G0, env, G, S, h1⟩ => ?_
  refine seq1 (k := fun a e2 => (optR (hBl a)).map fun d => (d, e2)) S h1 fun x G2 H2 a e2 S2 s2 r1 h2 => ?_
  obtain ⟨d, ed, h3⟩ := optR_sat (Res.sat_map h2)
  cases a <;> simp only [hBl] at ed <;> try (cases ed; done)
  cases ed
  exact ⟨_, r1, h3 G2 H2 S2 s2⟩
noncomputable def mAnd (f g : M Bool) : M Bool := fun env => (f env).bind fun p => if p.1 = true then g p.2 else .ok (false, p.2)
noncomputable def mOr (f g : M Bool) : M Bool := fun env => (f env).bind fun p => if p.1 = true then .ok (true, p.2) else g p.2
noncomputable def mNot (f : M Bool) : M Bool := mMap (!·) f
variable {f1 g1 : M Bool} {rest : List Expr}
theorem dw_and1 (ha : DT X EA a f1) : DW X EA (.BoolOp .And [a] pos) f1 := pw_and1 ha
theorem dw_or1 (ha : DT X EA a f1) : DW X EA (.BoolOp .Or [a] pos) f1 := pw_or1 ha
theorem dw_and (ha : DT X EA a f1) (hb : DW X EA (.BoolOp .And (b :: rest) pos) g1) : DW X EA (.BoolOp .And (a :: b :: rest) pos) (mAnd f1 g1) := by
  refine pw_imp (pw_and ha hb) fun σ H Q ⟨A, H0, G0, env, G, S, h1⟩ => ?_
  refine ⟨A, H0, G0, env, G, S, Res.sat_mono (Res.sat_bind h1) (fun p hp G1 H1 S1 s1 => ?_) fun _ z => z⟩
  cases hq : p.1 with
  | true => rw [hq, if_pos rfl] at hp; rw [if_pos rfl]; exact ⟨A, H0, G0, p.2, G1, S1, Res.sat_mono hp (fun q hq G2 H2 S2 s2 => hq G2 H2 S2 (s1.trans s2)) fun _ z => z⟩
  | false => rw [hq, if_neg (by simp)] at hp; rw [if_neg (by simp)]; exact hp G1 H1 S1 s1
theorem dw_or (ha : DT X EA a f1) (hb : DW X EA (.BoolOp .Or (b :: rest) pos) g1) : DW X EA (.BoolOp .Or (a :: b :: rest) pos) (mOr f1 g1) := by
  refine pw_imp (pw_or ha hb) fun σ H Q ⟨A, H0, G0, env, G, S, h1⟩ => ?_
  refine ⟨A, H0, G0, env, G, S, Res.sat_mono (Res.sat_bind h1) (fun p hp G1 H1 S1 s1 => ?_) fun _ z => z⟩
  cases hq : p.1 with
  | false => rw [hq, if_neg (by simp)] at hp; rw [if_neg (by simp)]; exact ⟨A, H0, G0, p.2, G1, S1, Res.sat_mono hp (fun q hq G2 H2 S2 s2 => hq G2 H2 S2 (s1.trans s2)) fun _ z => z⟩
  | true => rw [hq, if_pos rfl] at hp; rw [if_pos rfl]; exact hp G1 H1 S1 s1
theorem dt_w (h : DW X EA a f1) : DT X EA a f1 := h.pt
theorem dt_not (ha : DT X EA a f1) : DT X EA (.UnaryOp .Not a pos) (mNot f1) := by
  refine pt_imp (pt_not ha) fun σ H Q ⟨A, H0, G0, env, G, S, h1⟩ => ?_
  exact ⟨A, H0, G0, env, G, S, Res.sat_mono (Res.sat_map h1) (fun p hp G1 H1 S1 s1 => hp G1 H1 S1 s1) fun _ z => z⟩
/-- and, or, not as values -/
noncomputable def vAnd (f g : M D) : M D := fun env => (f env).bind fun p => (optR (hBl p.1)).bind fun b => if b = true then g p.2 else .ok (.bl false, p.2)
noncomputable def vOr (f g : M D) : M D := fun env => (f env).bind fun p => (optR (hBl p.1)).bind fun b => if b = true then .ok (.bl true, p.2) else g p.2
theorem df_one {op} (h : DF X EA a f) : DF X EA (.BoolOp op [a] pos) f := pe_one h
theorem df_and (ha : DF X EA a f) (hb : DF X EA (.BoolOp .And (b :: rest) pos) g) : DF X EA (.BoolOp .And (a :: b :: rest) pos) (vAnd f g) := by
  refine pe_imp (pe_and ha hb) fun σ H Q ⟨A, H0, G0, env, G, S, h1⟩ => ?_
  refine seq1 (β := D × DEnv) (k := fun a e2 => (optR (hBl a)).bind fun b => if b = true then g e2 else .ok (.bl false, e2)) S h1 fun x G2 H2 a e2 S2 s2 r1 h2 => ?_
  obtain ⟨d, ed, h3⟩ := optR_sat (Res.sat_bind h2)
  cases a <;> simp only [hBl] at ed <;> try (cases ed; done)
  cases ed
  refine ⟨_, r1, ?_⟩
  split
  · rename_i hd; rw [hd, if_pos rfl] at h3
    exact ⟨A, H0, G0, e2, G2, S2, Res.sat_mono h3 (fun q hq v G3 H3 S3 s3 r3 => hq v G3 H3 S3 (s2.trans s3) r3) fun _ z => z⟩
  · rename_i hd; rw [if_neg hd] at h3; exact h3 _ G2 H2 S2 s2 rfl
theorem df_or (ha : DF X EA a f) (hb : DF X EA (.BoolOp .Or (b :: rest) pos) g) : DF X EA (.BoolOp .Or (a :: b :: rest) pos) (vOr f g) := by
  refine pe_imp (pe_or ha hb) fun σ H Q ⟨A, H0, G0, env, G, S, h1⟩ => ?_
  refine seq1 (β := D × DEnv) (k := fun a e2 => (optR (hBl a)).bind fun b => if b = true then .ok (.bl true, e2) else g e2) S h1 fun x G2 H2 a e2 S2 s2 r1 h2 => ?_
  obtain ⟨d, ed, h3⟩ := optR_sat (Res.sat_bind h2)
  cases a <;> simp only [hBl] at ed <;> try (cases ed; done)
  cases ed
  refine ⟨_, r1, ?_⟩
  split
  · rename_i hd; rw [hd, if_pos rfl] at h3; exact h3 _ G2 H2 S2 s2 rfl
  · rename_i hd; rw [if_neg hd] at h3
    exact ⟨A, H0, G0, e2, G2, S2, Res.sat_mono h3 (fun q hq v G3 H3 S3 s3 r3 => hq v G3 H3 S3 (s2.trans s3) r3) fun _ z => z⟩
noncomputable def vNot : D → Option D
  | .bl b => some (.bl !b)
  | _ => none
theorem df_not (ha : DF X EA a f) : DF X EA (.UnaryOp .Not a pos) (mOpt vNot f) := by
  refine pe_imp (pe_not ha) fun σ H Q ⟨A, H0, G0, env, G, S, h1⟩ => ?_
  refine seq1 (k := fun a e2 => (optR (vNot a)).map fun d => (d, e2)) S h1 fun x G2 H2 a e2 S2 s2 r1 h2 => ?_
  obtain ⟨d, ed, h3⟩ := optR_sat (Res.sat_map h2)
  cases a <;> simp only [vNot] at ed <;> try (cases ed; done)
  cases ed
  exact ⟨_, r1, h3 _ G2 H2 S2 s2 rfl⟩
noncomputable def gIf {α : Type} (t : M Bool) (f g : M α) : M α := fun env => (t env).bind fun p => if p.1 = true then f p.2 else g p.2
noncomputable def aNil : M (List D) := mPure []
noncomputable def aCons (f : M D) (r : M (List D)) : M (List D) := fun env => (f env).bind fun p => (r p.2).map fun q => (p.1 :: q.1, q.2)
theorem da_nil : DA X EA [] aNil := pa_imp pa_nil fun σ H Q ⟨A, H0, G0, env, G, S, h1⟩ => h1 [] G H S (Same.refl _) RepL.nil
theorem da_cons {es : List Expr} {r : M (List D)} (ha : DF X EA a f) (hr : DA X EA es r) (hs : starEach (a :: es) X.env = (false, eval a X.env) :: starEach es X.env := by rfl) : DA X EA (a :: es) (aCons f r) := by
  refine pa_imp (pa_cons ha hr hs) fun σ H Q ⟨A, H0, G0, env, G, S, h1⟩ => ?_
  refine seq1 (β := List D × DEnv) (k := fun (a : D) (e2 : DEnv) => (r e2).map fun (q : List D × DEnv) => (a :: q.1, q.2)) S h1 fun x G2 H2 a e2 S2 s2 r1 h2 => ?_
  exact ⟨A, H0, G0, e2, G2, S2, Res.sat_mono (Res.sat_map h2) (fun q hq vs G3 H3 S3 s3 r3 => hq (x :: vs) G3 H3 S3 (s2.trans s3) (RepL.cons (Rep.mono s3 _ _ r1) r3)) fun _ z => z⟩
noncomputable def okLen (ds : List D) : Option (List D) := if ds.length ≤ sizeLine then some ds else none
theorem df_tup {es : List Expr} {x1} {r : M (List D)} (h : DA X EA es r) : DF X EA (.Tuple es x1 pos) (mMap D.tup (mOpt okLen r)) := by
  refine pe_imp (pe_tup h) fun σ H Q ⟨A, H0, G0, env, G, S, h1⟩ => ?_
  refine ⟨A, H0, G0, env, G, S, Res.sat_mono (Res.sat_bind (Res.sat_map h1)) (fun p hp vs G1 H1 S1 s1 r1 => ?_) fun _ z => z⟩
  obtain ⟨d, ed, h3⟩ := optR_sat (Res.sat_map hp)
  unfold okLen at ed
  split at ed
  · rename_i hl; cases ed
    refine ⟨by rw [r1.length]; exact hl, fun q hq => ?_⟩
    obtain ⟨S2, s2⟩ := S1.frozen (u := .tup vs) hq
    exact h3 _ _ _ S2 (s1.trans s2) ⟨q, vs, rfl, SqT.of upd_same, RepL.mono s2 _ _ r1⟩
  · cases ed
theorem de_lst {es : List Expr} {r : M (List D)} (h : DA X EA es r) : DE X EA (.List es pos) (mMap Cell.ow (mOpt okLen r)) := by
  refine pe_imp (pe_lst h) fun σ H Q ⟨A, H0, G0, env, G, S, h1⟩ => ?_
  refine ⟨A, H0, G0, env, G, S, Res.sat_mono (Res.sat_bind (Res.sat_map h1)) (fun p hp vs G1 H1 S1 s1 r1 => ?_) fun _ z => z⟩
  obtain ⟨d, ed, h3⟩ := optR_sat (Res.sat_map hp)
  unfold okLen at ed
  split at ed
  · rename_i hl; cases ed
    refine ⟨by rw [r1.length]; exact hl, fun q hq => ?_⟩
    obtain ⟨S2, g2, h02, o2⟩ := S1.laid (u := .lst vs) hq
    exact h3 _ _ _ S2 s1 ⟨⟨q, vs, rfl, upd_same, g2, r1⟩, fun l _ e => by cases e; exact ⟨h02, fun i c' e1 e2 => o2 i c' e1 e2⟩⟩
  · cases ed
noncomputable def Cell.toD : Cell → Option D
  | .fz d => some d
  | .ow ds => some (.lst ds)
  | .dk ks ds => some (.dic ks ds)
  | .ob c ns ds => some (.obj c ns ds)
  | _ => none
theorem de_f (h : DF X EA e f) : DE X EA e (mMap Cell.fz f) := by
  refine pe_imp h fun σ H Q ⟨A, H0, G0, env, G, S, h1⟩ => ⟨A, H0, G0, env, G, S, Res.sat_mono (Res.sat_map h1) (fun p hp v G1 H1 S1 s1 r1 => hp v G1 H1 S1 s1 ⟨⟨v, rfl, r1⟩, fun _ z => by cases z⟩) fun _ z => z⟩
/-- what is owned and at hand is frozen -/
theorem df_e {m : M Cell} (h : DE X EA e m) : DF X EA e (mOpt Cell.toD m) := by
  refine pe_imp h fun σ H Q ⟨A, H0, G0, env, G, S, h1⟩ => ⟨A, H0, G0, env, G, S, Res.sat_mono (Res.sat_bind h1) (fun p hp v G1 H1 S1 s1 W => ?_) fun _ z => z⟩
  obtain ⟨d, ed, h3⟩ := optR_sat (Res.sat_map hp)
  cases hc : p.1 with
  | no => rw [hc] at ed; cases ed
  | dn ks ds => rw [hc] at ed; cases ed
  | fz d' =>
    rw [hc] at ed W; cases ed
    obtain ⟨v', e', r⟩ := W.cell
    cases e'
    exact h3 v G1 H1 S1 s1 r
  | ow ds =>
    rw [hc] at ed W; cases ed
    obtain ⟨l, xs, e', h1, h2, r⟩ := W.cell
    cases e'
    obtain ⟨h0, hd⟩ := W.frsh l rfl rfl
    obtain ⟨S2, s2⟩ := S1.freezeAt h1 h0 h2 hd
    exact h3 _ _ _ S2 (s1.trans s2) ⟨l, xs, rfl, upd_same, RepL.mono s2 _ _ r⟩
  | dk ks ds =>
    rw [hc] at ed W; cases ed
    obtain ⟨l, xs, e', h1, h2, r, z⟩ := W.cell
    cases e'
    obtain ⟨h0, hd⟩ := W.frsh l rfl rfl
    obtain ⟨S2, s2⟩ := S1.freezeAt h1 h0 h2 hd
    exact h3 _ _ _ S2 (s1.trans s2) ⟨l, xs, rfl, upd_same, RepL.mono s2 _ _ r, z⟩
  | ob c ns ds =>
    rw [hc] at ed W; cases ed
    obtain ⟨l, ca, dx, xs, e', mm, h1, h2, r, z⟩ := W.cell
    cases e'
    obtain ⟨h0, hd⟩ := W.frsh l rfl rfl
    obtain ⟨S2, s2⟩ := S1.freezeAt h1 h0 h2 hd
    exact h3 _ _ _ S2 (s1.trans s2) ⟨l, ca, dx, xs, rfl, mm, upd_same, RepL.mono s2 _ _ r, z⟩
/-- a list to be read -/
noncomputable def hLst : D → Option (List D)
  | .lst ds => some ds
  | .rol ns => some (ns.map D.int)
  | _ => none
/-- .. of a name, owned or frozen -/
noncomputable def cLst : Cell → Option (List D)
  | .fz d => hLst d
  | .ow ds => some ds
  | _ => none
noncomputable def gLstN (i : Nat) : M (List D) := fun env => (optR (env[i]?.bind cLst)).map fun d => (d, env)
theorem cLst_at {B : Bx} {A H0 G0 env G σ H} (S : SR B A H0 G0 env G σ H) {i : Nat} {ds : List D} (h : env[i]?.bind cLst = some ds) : ∃ l xs, σ[i]? = some (some (.ref l)) ∧ SqL B.K H l xs ∧ RepL B G ds xs := by
  cases e : env[i]? with
  | none => rw [e] at h; cases h
  | some c =>
    rw [e] at h
    have C := S.cell i c e
    cases c with
    | fz d =>
      obtain ⟨v, ev, r⟩ := C
      have ed : hLst d = some ds := h
      cases d <;> simp only [hLst] at ed <;> try (cases ed; done)
      · cases ed
        obtain ⟨l, xs, rfl, hl, r⟩ := r
        exact ⟨l, xs, join_some ev, S.same.seq (SqL.of hl), r⟩
      · cases ed
        obtain ⟨l, rfl, hl⟩ := r
        exact ⟨l, _, join_some ev, S.same.seq hl, RepL.of_ints _⟩
    | ow d =>
      have ed : some d = some ds := h
      cases ed
      obtain ⟨l, xs, ev, h1, h2, r⟩ := C
      exact ⟨l, xs, join_some ev, SqL.of h1, r⟩
    | no => cases h
    | ob _ _ _ => cases h
    | dk _ _ => cases h
    | dn _ _ => cases h
theorem dq_name {i : Nat} {x : Str} (h : PE X (.Name x pos) (tVar i)) : DQ X EA (.Name x pos) (gLstN i) := by
  refine pe_imp h fun σ H Q ⟨A, H0, G0, env, G, S, h⟩ => ?_
  obtain ⟨ds, ed, h3⟩ := optR_sat (Res.sat_map h)
  obtain ⟨l, xs, e1, e2, e3⟩ := cLst_at S ed
  exact ⟨_, e1, h3 l xs G H S (Same.refl _) e2 e3⟩
end
end DL
namespace DL
open PySem L2
inductive Out where
  | nx (e : DEnv) | rt (c : Cell) (e : DEnv) | bk (e : DEnv) | ct (e : DEnv)
noncomputable abbrev SM := DEnv → Res Out
noncomputable def OutOk (B : Bx) (A : Option Addr) (H0 G0 : Hp) (D : Ends) : Out → Prop
  | .nx e => ∀ G' σ' H', SR B A H0 G0 e G' σ' H' → D.nx σ' H'
  | .bk e => ∀ G' σ' H', SR B A H0 G0 e G' σ' H' → D.bk σ' H'
  | .ct e => ∀ G' σ' H', SR B A H0 G0 e G' σ' H' → D.ct σ' H'
  | .rt c e => ∀ v G' σ' H', SR B A H0 G0 e G' σ' H' → Val B H0 e G' σ' H' c v → D.rt v H'
noncomputable def tS (B : Bx) (EA : XK) (T : SM) : TS := fun D σ H => ∃ A H0 G0 env G, SR B A H0 G0 env G σ H ∧ (T env).sat (OutOk B A H0 G0 D) (XOk B A H0 G0 EA)
noncomputable abbrev DS (X : Cx) (EA : XK) (st : Stmt) (T : SM) : Prop := PS X st (tS (bx X) EA T)
noncomputable abbrev DSs (X : Cx) (EA : XK) (st : List Stmt) (T : SM) : Prop := PSs X st (tS (bx X) EA T)
theorem ps_imp {X : Cx} {st : Stmt} {t t' : TS} (h : PS X st t) (hi : ∀ D σ H, t' D σ H → t D σ H) : PS X st t' := ⟨fun pins s σ H D I hw => h.run pins s σ H D I (hi _ _ _ hw)⟩
theorem pss_imp {X : Cx} {st : List Stmt} {t t' : TS} (h : PSs X st t) (hi : ∀ D σ H, t' D σ H → t D σ H) : PSs X st t' := ⟨fun pins s σ H D I hw => h.run pins s σ H D I (hi _ _ _ hw)⟩
noncomputable def sNil : SM := fun env => .ok (.nx env)
noncomputable def sThen (o : Out) (T : SM) : Res Out := match o with
  | .nx e => T e
  | o => .ok o
noncomputable def sSeq (T U : SM) : SM := fun env => (T env).bind fun o => sThen o U
noncomputable def setC (i : Nat) (c : Cell) (env : DEnv) : Res Out := match env[i]? with
  | some (.ob _ _ _) => .stuck
  | some _ => .ok (.nx (env.set i c))
  | none => .stuck
section
variable {B : Bx} {A : Option Addr} {H0 G0 : Hp} {env : DEnv} {G : Hp} {σ : St} {H : Hp}
theorem SR.set {i : Nat} {c : Cell} {v : V} {c0 : Cell} (S : SR B A H0 G0 env G σ H) (W : Val B H0 env G σ H c v) (hi : env[i]? = some c0) (hn : ∀ a b d, c0 ≠ .ob a b d) : SR B A H0 G0 (env.set i c) G (σ.set i (some v)) H := by
  have ilt : i < env.length := (List.getElem?_eq_some_iff.mp hi).1
  have iσ : i < σ.length := by rw [S.len]; exact ilt
  refine ⟨by rw [List.length_set, List.length_set]; exact S.len, S.ext, S.same, S.new, S.keep, fun j d ej => ?_, fun j d l ej ho e1 => ?_, fun j k d d' l ej ek hd hd' e1 e2 => ?_, fun a ha => ?_⟩
  · by_cases hij : i = j
    · subst hij
      rw [List.getElem?_set_self ilt] at ej; cases ej
      rw [List.getElem?_set_self iσ]; exact W.cell
    · rw [List.getElem?_set_ne hij] at ej; rw [List.getElem?_set_ne hij]; exact S.cell j d ej
  · by_cases hij : i = j
    · subst hij
      rw [List.getElem?_set_self ilt] at ej; cases ej
      rw [List.getElem?_set_self iσ] at e1; cases e1
      exact .inl (W.frsh l ho rfl).1
    · rw [List.getElem?_set_ne hij] at ej; rw [List.getElem?_set_ne hij] at e1; exact S.frsh j d l ej ho e1
  · by_cases hij : i = j
    · subst hij
      rw [List.getElem?_set_self ilt] at ej; cases ej
      rw [List.getElem?_set_self iσ] at e1; cases e1
      by_cases hik : i = k
      · exact hik
      · rw [List.getElem?_set_ne hik] at ek e2
        exact ((W.frsh l hd rfl).2 k d' ek hd' e2).elim
    · rw [List.getElem?_set_ne hij] at ej e1
      by_cases hik : i = k
      · subst hik
        rw [List.getElem?_set_self ilt] at ek; cases ek
        rw [List.getElem?_set_self iσ] at e2; cases e2
        exact ((W.frsh l hd' rfl).2 j d ej hd e1).elim
      · rw [List.getElem?_set_ne hik] at ek e2
        exact S.dist j k d d' l ej ek hd hd' e1 e2
  · obtain ⟨z1, c', ns, ds, ec⟩ := S.slf a ha
    have h0 : i ≠ 0 := fun z => by subst z; rw [hi] at ec; cases ec; exact hn _ _ _ rfl
    rw [List.getElem?_set_ne h0, List.getElem?_set_ne h0]
    exact ⟨z1, c', ns, ds, ec⟩
theorem setC_ok {i : Nat} {c : Cell} {v : V} {D : Ends} {E : XD → Prop} (S : SR B A H0 G0 env G σ H) (W : Val B H0 env G σ H c v) (h : (setC i c env).sat (OutOk B A H0 G0 D) E) : D.nx (σ.set i (some v)) H := by
  unfold setC at h
  split at h
  · exact h.elim
  · rename_i c0 hn e
    exact h G _ H (S.set W e fun a b d z => hn a b d z)
  · exact h.elim
end
section
variable {X : Cx} {EA : XK} {st : Stmt} {rest : List Stmt} {T U : SM} {e : Expr} {pos : Pos} {f : M D} {m : M Cell}
theorem dss_nil : DSs X EA [] sNil := pss_imp pss_nil fun D σ H ⟨A, H0, G0, env, G, S, h⟩ => h G σ H S
theorem dss_cons (h1 : DS X EA st T) (h2 : DSs X EA rest U) : DSs X EA (st :: rest) (sSeq T U) := by
  refine pss_imp (pss_cons h1 h2) fun D σ H ⟨A, H0, G0, env, G, S, h⟩ => ?_
  refine ⟨A, H0, G0, env, G, S, Res.sat_mono (Res.sat_bind h) (fun o ho => ?_) fun _ z => z⟩
  cases o with
  | nx e => exact fun G' σ' H' S' => ⟨A, H0, G0, e, G', S', ho⟩
  | rt c e => exact ho
  | bk e => exact ho
  | ct e => exact ho
theorem dss_one (h1 : DS X EA st T) : DSs X EA [st] T := pss_one h1
noncomputable def sRet (m : M Cell) : SM := fun env => (m env).map fun p => .rt p.1 p.2
theorem ds_ret (h : DE X EA e m) : DS X EA (.Return (some e) pos) (sRet m) := by
  refine ps_imp (ps_ret h) fun D σ H ⟨A, H0, G0, env, G, S, h⟩ => ?_
  exact ⟨A, H0, G0, env, G, S, Res.sat_mono (Res.sat_map h) (fun p hp v G' H' S' s' W => hp v G' σ H' S' W) fun _ z => z⟩
/-- what a name owns is handed back -/
noncomputable def gTake (i : Nat) : M Cell := fun env => match env[i]? with
  | some (.fz d) => .ok (.fz d, env)
  | some (.ow ds) => .ok (.ow ds, env.set i .no)
  | some (.dk ks ds) => .ok (.dk ks ds, env.set i .no)
  | some (.dn ks ds) => .ok (.dn ks ds, env.set i .no)
  | some (.ob c ns ds) => if i = 0 then .stuck else .ok (.ob c ns ds, env.set i .no)
  | _ => .stuck
theorem SR.drop {B : Bx} {A H0 G0 env G σ H} {i : Nat} {c : Cell} (S : SR B A H0 G0 env G σ H) (hi : env[i]? = some c) (hc : c.own = true) (hn : i ≠ 0 ∨ ∀ a b d, c ≠ .ob a b d) : SR B A H0 G0 (env.set i .no) G σ H ∧ ∃ l, σ[i]? = some (some (.ref l)) ∧ Val B H0 (env.set i .no) G σ H c (.ref l) := by
  have ilt : i < env.length := (List.getElem?_eq_some_iff.mp hi).1
  obtain ⟨l, u, e1, h1, g1⟩ := (S.cell i c hi).addr hc
  have ei := join_some e1
  have hA : A ≠ some l := S.notA hi hc ei hn
  refine ⟨⟨by rw [List.length_set]; exact S.len, S.ext, S.same, S.new, S.keep, fun j d ej => ?_, fun j d l ej ho e1 => ?_, fun j k d d' l ej ek hd hd' e1 e2 => ?_, fun a ha => ?_⟩, l, ei, ?_, fun l' _ e2 => ?_⟩
  · by_cases hij : i = j
    · subst hij; rw [List.getElem?_set_self ilt] at ej; cases ej; trivial
    · rw [List.getElem?_set_ne hij] at ej; exact S.cell j d ej
  · by_cases hij : i = j
    · subst hij; rw [List.getElem?_set_self ilt] at ej; cases ej; cases ho
    · rw [List.getElem?_set_ne hij] at ej; exact S.frsh j d l ej ho e1
  · have hj : i ≠ j := fun z => by subst z; rw [List.getElem?_set_self ilt] at ej; cases ej; cases hd
    have hk : i ≠ k := fun z => by subst z; rw [List.getElem?_set_self ilt] at ek; cases ek; cases hd'
    rw [List.getElem?_set_ne hj] at ej; rw [List.getElem?_set_ne hk] at ek
    exact S.dist j k d d' l ej ek hd hd' e1 e2
  · obtain ⟨z1, c', ns, ds, ec⟩ := S.slf a ha
    have h0 : i ≠ 0 := fun z => by
      subst z
      rw [z1] at ei; cases ei
      exact hA ha
    rw [List.getElem?_set_ne h0]
    exact ⟨z1, c', ns, ds, ec⟩
  · have := S.cell i c hi; rw [e1] at this; exact this
  · cases e2
    refine ⟨(S.frsh i c l hi hc ei).elim id fun z => (hA z).elim, fun j c' ej hc' e3 => ?_⟩
    have hj : i ≠ j := fun z => by subst z; rw [List.getElem?_set_self ilt] at ej; cases ej; cases hc'
    rw [List.getElem?_set_ne hj] at ej
    exact hj (S.dist i j _ _ _ hi ej hc hc' ei e3)
theorem de_take {i : Nat} {x : Str} (h : PE X (.Name x pos) (tVar i)) : DE X EA (.Name x pos) (gTake i) := by
  refine pe_imp h fun σ H Q ⟨A, H0, G0, env, G, S, h⟩ => ?_
  unfold gTake at h
  split at h
  · rename_i d e
    obtain ⟨v, ev, r⟩ := S.cell i _ e
    exact ⟨v, join_some ev, h v G H S (Same.refl _) ⟨⟨v, rfl, r⟩, fun _ z => by cases z⟩⟩
  · rename_i ds e
    obtain ⟨S2, l, e1, W⟩ := S.drop e rfl (.inr (by intro a b d z; cases z))
    exact ⟨_, e1, h _ G H S2 (Same.refl _) W⟩
  · rename_i ks ds e
    obtain ⟨S2, l, e1, W⟩ := S.drop e rfl (.inr (by intro a b d z; cases z))
    exact ⟨_, e1, h _ G H S2 (Same.refl _) W⟩
  · rename_i ks ds e
    obtain ⟨S2, l, e1, W⟩ := S.drop e rfl (.inr (by intro a b d z; cases z))
    exact ⟨_, e1, h _ G H S2 (Same.refl _) W⟩
  · rename_i c ns ds e
    split at h
    · exact h.elim
    · rename_i hi
      obtain ⟨S2, l, e1, W⟩ := S.drop e rfl (.inl hi)
      exact ⟨_, e1, h _ G H S2 (Same.refl _) W⟩
  · exact h.elim
noncomputable def sIf (t : M Bool) (T U : SM) : SM := fun env => (t env).bind fun p => if p.1 = true then T p.2 else U p.2
theorem ds_if {c : Expr} {a b : List Stmt} {t : M Bool} (hc : DT X EA c t) (ha : DSs X EA a T) (hb : DSs X EA b U) : DS X EA (.If c a b pos) (sIf t T U) := by
  refine ps_imp (ps_if hc ha hb) fun D σ H ⟨A, H0, G0, env, G, S, h⟩ => ?_
  refine ⟨A, H0, G0, env, G, S, Res.sat_mono (Res.sat_bind h) (fun p hp G1 H1 S1 s1 => ?_) fun _ z => z⟩
  cases hq : p.1 with
  | true => rw [hq, if_pos rfl] at hp; rw [if_pos rfl]; exact ⟨A, H0, G0, p.2, G1, S1, hp⟩
  | false => rw [hq, if_neg (by simp)] at hp; rw [if_neg (by simp)]; exact ⟨A, H0, G0, p.2, G1, S1, hp⟩
noncomputable def sSet (i : Nat) (m : M Cell) : SM := fun env => (m env).bind fun p => setC i p.1 p.2
theorem ds_set {i : Nat} {x : Str} {pos' : Pos} (hN : X.N.Nodup) (hi : X.N[i]? = some x) (hx : L2.Loc X.env.scope x) (he : DE X EA e m) (hs : swapsWith e (some (.Name x pos')) pos.line X.env = pure false := by rfl) (hf : X.fn x = true ∨ X.env.scope.names.lookup x = some .local := by first | exact .inl rfl | exact .inr rfl | assumption) :
    DS X EA (.Assign [.Name x pos'] e pos) (sSet i m) := by
  refine ps_imp (ps_set hN hi hx he hs hf) fun D σ H ⟨A, H0, G0, env, G, S, h⟩ => ?_
  exact ⟨A, H0, G0, env, G, S, Res.sat_mono (Res.sat_bind h) (fun p hp v G' H' S' s' W => setC_ok S' W hp) fun _ z => z⟩
noncomputable def sDrop (f : M D) : SM := fun env => (f env).map fun p => .nx p.2
theorem ds_expr (he : DF X EA e f) (hs : swapsWith e none pos.line X.env = pure false := by rfl) : DS X EA (.Expr e pos) (sDrop f) := by
  refine ps_imp (ps_expr he hs) fun D σ H ⟨A, H0, G0, env, G, S, h⟩ => ?_
  exact ⟨A, H0, G0, env, G, S, Res.sat_mono (Res.sat_map h) (fun p hp v G' H' S' s' _ => hp G' σ H' S') fun _ z => z⟩
/-- code that is never come to -/
noncomputable def sNever : SM := fun _ => .stuck
theorem ds_never : DS X EA st sNever := ps_imp ps_never fun D σ H ⟨A, H0, G0, env, G, S, h⟩ => h.elim
/-- alike but for some slots -/
noncomputable def Off (us : List Nat) (σ σ' : St) : Prop := σ'.length = σ.length ∧ ∀ i, i ∉ us → σ'[i]? = σ[i]?
noncomputable def tG (B : Bx) (EA : XK) (us : List Nat) (g : D → SM) : TG := fun v σ H Q => ∃ A H0 G0 env G d, SR B A H0 G0 env G σ H ∧ Rep B G d v ∧
  (g d env).sat (fun o => ∃ e', o = .nx e' ∧ ∀ G' σ' H', SR B A H0 G0 e' G' σ' H' → Same G G' → Off us σ σ' → Q σ' H') (XOk B A H0 G0 EA)
noncomputable abbrev DG (X : Cx) (EA : XK) (tg : Expr) (us : List Nat) (g : D → SM) : Prop := PG X tg (tG (bx X) EA us g)
noncomputable def tGs (B : Bx) (EA : XK) (us : List Nat) (g : List D → SM) : TGs := fun vs σ H Q => ∃ A H0 G0 env G ds, SR B A H0 G0 env G σ H ∧ RepL B G ds vs ∧
  (g ds env).sat (fun o => ∃ e', o = .nx e' ∧ ∀ G' σ' H', SR B A H0 G0 e' G' σ' H' → Same G G' → Off us σ σ' → Q σ' H') (XOk B A H0 G0 EA)
noncomputable abbrev DGs (X : Cx) (EA : XK) (ts : List Expr) (us : List Nat) (g : List D → SM) : Prop := PGs X ts (tGs (bx X) EA us g)
theorem pg_imp {tg : Expr} {t t' : TG} (h : PG X tg t) (hi : ∀ v σ H Q, t' v σ H Q → t v σ H Q) : PG X tg t' := ⟨fun pins s σ H v u Q I r hw => h.run pins s σ H v u Q I r (hi _ _ _ _ hw)⟩
theorem pgs_imp {tg : List Expr} {t t' : TGs} (h : PGs X tg t) (hi : ∀ v σ H Q, t' v σ H Q → t v σ H Q) : PGs X tg t' := ⟨fun pins s σ H v u Q I r hw => h.run pins s σ H v u Q I r (hi _ _ _ _ hw)⟩
noncomputable def gtName (i : Nat) : D → SM := fun d env => setC i (.fz d) env
theorem dg_name {i : Nat} {x : Str} (hN : X.N.Nodup) (hi : X.N[i]? = some x) (hx : L2.Loc X.env.scope x) (hf : X.fn x = true ∨ X.env.scope.names.lookup x = some .local := by first | exact .inl rfl | exact .inr rfl | assumption) : DG X EA (.Name x pos) [i] (gtName i) := by
  refine pg_imp (pg_name hN hi hx hf) fun v σ H Q ⟨A, H0, G0, env, G, d, S, r, h⟩ => ?_
  show Q (σ.set i (some v)) H
  have W : Val (bx X) H0 env G σ H (.fz d) v := ⟨⟨v, rfl, r⟩, fun _ z => by cases z⟩
  unfold gtName setC at h
  split at h
  · exact h.elim
  · rename_i c0 hn e
    obtain ⟨e', ee, k⟩ := h
    cases ee
    refine k G _ H (S.set W e fun a b d z => hn a b d z) (Same.refl _) ⟨by simp, fun j hj => ?_⟩
    rw [List.getElem?_set_ne (by simpa using fun z => hj (by simp [z]))]
  · exact h.elim
noncomputable def gtNil : List D → SM := fun ds env => match ds with
  | [] => .ok (.nx env)
  | _ => .stuck
noncomputable def gtCons (g : D → SM) (r : List D → SM) : List D → SM := fun ds env => match ds with
  | d :: ds => (g d env).bind fun o => sThen o (r ds)
  | [] => .stuck
theorem dgs_nil : DGs X EA [] [] gtNil := pgs_imp pgs_nil fun vs σ H Q ⟨A, H0, G0, env, G, ds, S, r, h⟩ => by
  unfold gtNil at h
  split at h
  · obtain ⟨e', ee, k⟩ := h
    cases ee
    exact ⟨r, k G σ H S (Same.refl _) ⟨rfl, fun _ _ => rfl⟩⟩
  · exact h.elim
theorem dgs_cons {es : List Expr} {us ws : List Nat} {g : D → SM} {r : List D → SM} (h1 : DG X EA e us g) (h2 : DGs X EA es ws r) (hs : (assignEach (e :: es) X.env).map (·.2) = assign e X.env :: (assignEach es X.env).map (·.2) := by rfl) : DGs X EA (e :: es) (us ++ ws) (gtCons g r) := by
  refine pgs_imp (pgs_cons h1 h2 hs) fun vs σ H Q ⟨A, H0, G0, env, G, ds, S, rv, h⟩ => ?_
  unfold gtCons at h
  split at h
  · rename_i d ds
    obtain ⟨x, xr, ex, rx, rr⟩ := rv
    refine ⟨x, xr, ex, A, H0, G0, env, G, d, S, rx, Res.sat_mono (Res.sat_bind h) (fun o ho => ?_) fun _ z => z⟩
    cases o with
    | nx e1 => exact ⟨e1, rfl, fun G' σ' H' S' s' o1 => ⟨A, H0, G0, e1, G', ds, S', RepL.mono s' _ _ rr, Res.sat_mono ho (fun o ⟨e', ee, k⟩ => ⟨e', ee, fun G2 σ2 H2 S2 s2 o2 => k G2 σ2 H2 S2 (s'.trans s2) ⟨o2.1.trans o1.1, fun i hi => (o2.2 i fun z => hi (List.mem_append_right _ z)).trans (o1.2 i fun z => hi (List.mem_append_left _ z))⟩⟩) fun _ z => z⟩⟩
    | rt c e1 => obtain ⟨e', ee, k⟩ := ho; cases ee
    | bk e1 => obtain ⟨e', ee, k⟩ := ho; cases ee
    | ct e1 => obtain ⟨e', ee, k⟩ := ho; cases ee
  · exact h.elim
noncomputable def gtTup (n : Nat) (r : List D → SM) : D → SM := fun d env => match d with
  | .tup ds => if ds.length = n then r ds env else .stuck
  | _ => .stuck
theorem dg_tup {es : List Expr} {k : Nat} {us : List Nat} {r : List D → SM} {n : Nat} (hc : X.calm = true) (h : DGs X EA es us r) (hn : (assignEach es X.env).length = n := by rfl) (hst : (assignEach es X.env).findIdx? (·.1) = none := by rfl) : DG X EA (.Tuple es k pos) us (gtTup n r) := by
  refine pg_imp (pg_tup hc h hn hst) fun v σ H Q ⟨A, H0, G0, env, G, d, S, rv, h⟩ => ?_
  unfold gtTup at h
  split at h
  · rename_i ds
    split at h
    · rename_i hl
      obtain ⟨a, xs, ev, ha, rx⟩ := rv
      exact ⟨a, xs, ev, S.same.seqT ha, by rw [rx.length]; exact hl, A, H0, G0, env, G, ds, S, rx, h⟩
    · exact h.elim
  · exact h.elim
noncomputable def sAsg (f : M D) (g : D → SM) : SM := fun env => (f env).bind fun p => g p.1 p.2
theorem ds_asg {tg : Expr} {us : List Nat} {g : D → SM} (he : DF X EA e f) (hg : DG X EA tg us g) (hs : swapsWithSole [tg] e pos.line X.env = pure false := by rfl) (hw : swappedStores [tg] e X.env = pure none := by rfl)
    (h1 : (assignEach [tg] X.env).map (·.2) = [assign tg X.env] := by rfl) (hnx : ∀ d env o, g d env = .ok o → ∃ e', o = .nx e') : DS X EA (.Assign [tg] e pos) (sAsg f g) := by
  refine ps_imp (ps_asg he hg hs hw h1) fun D σ H ⟨A, H0, G0, env, G, S, h⟩ => ?_
  refine ⟨A, H0, G0, env, G, S, Res.sat_mono (Res.sat_bind h) (fun p hp v G' H' S' s' r => ⟨A, H0, G0, p.2, G', p.1, S', r, ?_⟩) fun _ z => z⟩
  cases hq : g p.1 p.2 with
  | ok o =>
    rw [hq] at hp
    obtain ⟨e', rfl⟩ := hnx _ _ _ hq
    exact ⟨e', rfl, fun G2 σ2 H2 S2 _ _ => hp G2 σ2 H2 S2⟩
  | ex x => rw [hq] at hp; exact hp
  | stuck => rw [hq] at hp; exact hp
theorem nx_name {i : Nat} : ∀ d env o, gtName i d env = .ok o → ∃ e', o = .nx e' := fun d env o h => by
  unfold gtName setC at h
  split at h
  · cases h
  · cases h; exact ⟨_, rfl⟩
  · cases h
theorem nx_nil : ∀ ds env o, gtNil ds env = .ok o → ∃ e', o = .nx e' := fun ds env o h => by
  unfold gtNil at h
  split at h
  · cases h; exact ⟨_, rfl⟩
  · cases h
theorem nx_cons {g : D → SM} {r : List D → SM} (hg : ∀ d env o, g d env = .ok o → ∃ e', o = .nx e') (hr : ∀ ds env o, r ds env = .ok o → ∃ e', o = .nx e') : ∀ ds env o, gtCons g r ds env = .ok o → ∃ e', o = .nx e' := fun ds env o h => by
  unfold gtCons at h
  split at h
  · rename_i d ds
    cases hq : g d env with
    | ok o1 =>
      rw [hq] at h
      obtain ⟨e', rfl⟩ := hg _ _ _ hq
      exact hr _ _ _ h
    | ex x => rw [hq] at h; cases h
    | stuck => rw [hq] at h; cases h
  · cases h
theorem nx_tup {r : List D → SM} {n : Nat} (hr : ∀ ds env o, r ds env = .ok o → ∃ e', o = .nx e') : ∀ d env o, gtTup n r d env = .ok o → ∃ e', o = .nx e' := fun d env o h => by
  unfold gtTup at h
  split at h
  · split at h
    · exact hr _ _ _ h
    · cases h
  · cases h
noncomputable def IterOk (B : Bx) (G : Hp) (J : It) (ds : List D) : Prop := ∀ (i : Nat) (Hc : Hp), Same G Hc → (i < ds.length → J.go i Hc) ∧ (ds.length ≤ i → J.stop i Hc) ∧
  ∀ x H' d, ds[i]? = some d → J.yld i Hc x H' → (H' = Hc ∧ Rep B G d x) ∨ ∃ T xs es, x = .ref T ∧ Hc T = none ∧ H' = upd Hc T (.tup xs) ∧ d = .tup es ∧ RepL B G es xs
noncomputable def tI (B : Bx) (EA : XK) (g : M (List D)) : TI := fun σ H R => ∃ A H0 G0 env G, SR B A H0 G0 env G σ H ∧
  (g env).sat (fun r => ∀ J G' H', SR B A H0 G0 r.2 G' σ H' → Same G G' → IterOk B G' J r.1 → R J H') (XOk B A H0 G0 EA)
noncomputable abbrev DI (X : Cx) (EA : XK) (tg iter : Expr) (g : M (List D)) : Prop := PI X tg iter (tI (bx X) EA g)
theorem pi_imp {tg iter : Expr} {t t' : TI} (h : PI X tg iter t) (hi : ∀ σ H R, t' σ H R → t σ H R) : PI X tg iter t' := ⟨fun pins s σ H R I hw => h.run pins s σ H R I (hi _ _ _ hw)⟩
variable {tg : Expr}
theorem IterOk.list {B : Bx} {G : Hp} {l : Addr} {xs : List V} {ds : List D} (h : SqL B.K G l xs) (r : RepL B G ds xs) : IterOk B G (Itl B.K l) ds := fun i Hc s => by
  have hq := s.seq h
  refine ⟨fun hi => ?_, fun hi => ⟨xs, hq, by rw [r.length]; exact hi⟩, fun x H' d ed y => .inl ?_⟩
  · have hx : i < xs.length := by rw [r.length]; exact hi
    exact ⟨xs, xs[i], hq, by simp [hx]⟩
  · obtain ⟨e, y⟩ := y
    refine ⟨e, ?_⟩
    obtain ⟨x', e1, e2⟩ := r.get ed
    rw [y xs hq] at e1; cases e1
    exact e2
theorem di_list (h : DF X EA e f) : DI X EA tg e (mOpt hLst f) := by
  refine pi_imp (pi_list h) fun σ H R ⟨A, H0, G0, env, G, S, h1⟩ => ?_
  refine seq1 (k := fun a e2 => (optR (hLst a)).map fun d => (d, e2)) S h1 fun x G2 H2 a e2 S2 s2 r1 h2 => ?_
  obtain ⟨d, ed, h3⟩ := optR_sat (Res.sat_map h2)
  cases a <;> simp only [hLst] at ed <;> try (cases ed; done)
  · cases ed
    obtain ⟨l, xs, rfl, hl, r⟩ := r1
    exact ⟨l, rfl, ⟨xs, S2.same.seq (SqL.of hl)⟩, h3 _ G2 H2 S2 s2 (IterOk.list (SqL.of hl) r)⟩
  · cases ed
    obtain ⟨l, rfl, hl⟩ := r1
    exact ⟨l, rfl, ⟨_, S2.same.seq hl⟩, h3 _ G2 H2 S2 s2 (IterOk.list hl (RepL.of_ints _))⟩
/-- the signs of a text, one by one -/
noncomputable def sgn (c : Nat) : Str := ⟨#[c]⟩
noncomputable def hSgn : D → Option (List D)
  | .str x => some (x.cps.toList.map fun c => .str (sgn c))
  | _ => none
theorem di_str (h : DF X EA e f) : DI X EA tg e (mOpt hSgn f) := by
  refine pi_imp (pi_str h) fun σ H R ⟨A, H0, G0, env, G, S, h1⟩ => ?_
  refine seq1 (k := fun a e2 => (optR (hSgn a)).map fun d => (d, e2)) S h1 fun x G2 H2 a e2 S2 s2 r1 h2 => ?_
  obtain ⟨d, ed, h3⟩ := optR_sat (Res.sat_map h2)
  cases a <;> simp only [hSgn] at ed <;> try (cases ed; done)
  rename_i z
  cases ed
  refine ⟨z, r1, h3 _ G2 H2 S2 s2 fun i Hc s => ?_⟩
  refine ⟨fun hi => (by show i < z.cps.size; simpa using hi), fun hi => (by show z.cps.size ≤ i; simpa using hi), fun x H' d ed y => .inl ?_⟩
  obtain ⟨e, c, ec, ex⟩ := y
  refine ⟨e, ?_⟩
  have : d = .str (sgn c) := by
    rw [List.getElem?_map] at ed
    have : z.cps.toList[i]? = some c := by simpa using ec
    rw [this] at ed; cases ed; rfl
  rw [this, ex]; rfl
noncomputable def rngD (lo : Int) (n : Nat) : List D := (List.range n).map fun (k : Nat) => D.int (lo + (k : Int))
theorem IterOk.rng {B : Bx} {G : Hp} {lo : Int} {n : Nat} : IterOk B G (Itr lo n) (rngD lo n) := fun i Hc s => by
  have hl : (rngD lo n).length = n := by simp [rngD]
  refine ⟨fun hi => by rw [hl] at hi; exact hi, fun hi => by rw [hl] at hi; exact hi, fun x H' d ed y => .inl ?_⟩
  obtain ⟨e, ex⟩ := y
  refine ⟨e, ?_⟩
  have hi : i < n := by have := (List.getElem?_eq_some_iff.mp ed).1; rw [hl] at this; exact this
  have : d = .int (lo + (i : Int)) := by
    unfold rngD at ed
    rw [List.getElem?_map, List.getElem?_range hi] at ed; cases ed; rfl
  rw [this, ex]; rfl
noncomputable def hRng1 : List D → Option (List D)
  | [.int j] => if -(2 ^ 62) ≤ j ∧ j < 2 ^ 62 then some (rngD 0 j.toNat) else none
  | _ => none
noncomputable def hRng2 : List D → Option (List D)
  | [.int i, .int j] => if -(2 ^ 62) ≤ i ∧ i < 2 ^ 62 ∧ -(2 ^ 62) ≤ j ∧ j < 2 ^ 62 then some (rngD i (j - i).toNat) else none
  | _ => none
variable {a b : Expr} {p : Pos} {r : M (List D)}
theorem di_range1 (hg : Gl X "range") (hm : X.mg "range" = none) (ha : DA X EA [a] r) (hs : starEach [a] X.env = [(false, eval a X.env)] := by rfl) : DI X EA tg (.Call (.Name "range" p) [a] [] pos) (mOpt hRng1 r) := by
  refine pi_imp (pi_range1 hg hm ha hs) fun σ H R ⟨A, H0, G0, env, G, S, h1⟩ => ?_
  refine ⟨A, H0, G0, env, G, S, Res.sat_mono (Res.sat_bind h1) (fun p hp vs G1 H1 S1 s1 r1 => ?_) fun _ z => z⟩
  obtain ⟨d, ed, h3⟩ := optR_sat (Res.sat_map hp)
  unfold hRng1 at ed
  split at ed
  · rename_i j e1
    rw [e1] at r1
    split at ed
    · rename_i hj; cases ed
      obtain ⟨x, xr, e2, h4, h5⟩ := r1
      have e3 : x = V.int j := h4
      have e4 : xr = [] := h5
      exact ⟨j, by rw [e2, e3, e4], hj.1, hj.2, h3 _ G1 H1 S1 s1 IterOk.rng⟩
    · cases ed
  · cases ed
theorem di_range2 (hg : Gl X "range") (hm : X.mg "range" = none) (ha : DA X EA [a, b] r) (hs : starEach [a, b] X.env = [(false, eval a X.env), (false, eval b X.env)] := by rfl) (hs2 : starEach [b] X.env = [(false, eval b X.env)] := by rfl) : DI X EA tg (.Call (.Name "range" p) [a, b] [] pos) (mOpt hRng2 r) := by
  refine pi_imp (pi_range2 hg hm ha hs hs2) fun σ H R ⟨A, H0, G0, env, G, S, h1⟩ => ?_
  refine ⟨A, H0, G0, env, G, S, Res.sat_mono (Res.sat_bind h1) (fun p hp vs G1 H1 S1 s1 r1 => ?_) fun _ z => z⟩
  obtain ⟨d, ed, h3⟩ := optR_sat (Res.sat_map hp)
  unfold hRng2 at ed
  split at ed
  · rename_i i j e1
    rw [e1] at r1
    split at ed
    · rename_i hj; cases ed
      obtain ⟨x, xr, e2, h4, y, yr, e5, h5, h6⟩ := r1
      have e3 : x = V.int i := h4
      have e6 : y = V.int j := h5
      have e4 : yr = [] := h6
      exact ⟨i, j, by rw [e2, e3, e5, e6, e4], hj, h3 _ G1 H1 S1 s1 IterOk.rng⟩
    · cases ed
  · cases ed
theorem hLst_rep {B : Bx} {G : Hp} {d : D} {ds : List D} {v : V} (r : Rep B G d v) (h : hLst d = some ds) : ∃ l xs, v = .ref l ∧ SqL B.K G l xs ∧ RepL B G ds xs := by
  cases d <;> simp only [hLst] at h <;> try (cases h; done)
  · cases h
    obtain ⟨l, xs, rfl, hl, r⟩ := r
    exact ⟨l, xs, rfl, SqL.of hl, r⟩
  · cases h
    obtain ⟨l, rfl, hl⟩ := r
    exact ⟨l, _, rfl, hl, RepL.of_ints _⟩
noncomputable def forL (g : D → SM) (T : SM) : List D → SM
  | [], env => .ok (.nx env)
  | d :: ds, env => (g d env).bind fun o => match o with
    | .nx e1 => (T e1).bind fun o => match o with
      | .nx e2 => forL g T ds e2
      | .ct e2 => forL g T ds e2
      | .bk e2 => .ok (.nx e2)
      | .rt c e2 => .ok (.rt c e2)
    | _ => .stuck
noncomputable def sFor (r : M (List D)) (g : D → SM) (T : SM) : SM := fun env => (r env).bind fun p => forL g T p.1 p.2
theorem ds_for {iter : Expr} {body : List Stmt} {us : List Nat} {r : M (List D)} {g : D → SM} (hp : PassesOwn (model X.prog X.w) X.A X.env X.xe) (hc : X.calm = true) (hi : DI X EA tg iter r) (hg : DG X EA tg us g) (hb : DSs X EA body T)
    (hs : ∀ x, foldedSetIterable iter X.env x = pure x := by intro _; rfl) : DS X EA (.For tg iter body [] pos) (sFor r g T) := by
  refine ps_imp (ps_for hp hc hi hg hb hs) fun D σ H ⟨A, H0, G0, env, G, S, h⟩ => ?_
  refine ⟨A, H0, G0, env, G, S, Res.sat_mono (Res.sat_bind h) (fun q hq J G1 H1 S1 s1 IK => ?_) fun _ z => z⟩
  refine ⟨fun i m σ H => m = q.1.length - i ∧ i ≤ q.1.length ∧ ∃ e2 G2, SR (bx X) A H0 G0 e2 G2 σ H ∧ Same G1 G2 ∧ (forL g T (q.1.drop i) e2).sat (OutOk (bx X) A H0 G0 D) (XOk (bx X) A H0 G0 EA), ⟨_, rfl, Nat.zero_le _, q.2, G1, S1, Same.refl _, by simpa using hq⟩, ?_⟩
  rintro i m σ H ⟨rfl, hi, e2, G2, S2, s2, hf⟩
  obtain ⟨k1, k2, k3⟩ := IK i H (s2.trans S2.same)
  by_cases hlt : i < q.1.length
  · refine .inr ⟨k1 hlt, fun σ' H' => ∃ e3 G3, SR (bx X) A H0 G0 e3 G3 σ' H' ∧ Same G1 G3 ∧ (forL g T (q.1.drop (i + 1)) e3).sat (OutOk (bx X) A H0 G0 D) (XOk (bx X) A H0 G0 EA), fun σ' H' z => ⟨q.1.length - (i + 1), by omega, rfl, hlt, z⟩, fun x H' y => ?_⟩
    have ed : q.1.drop i = q.1[i] :: q.1.drop (i + 1) := List.drop_eq_getElem_cons hlt
    have eg : q.1[i]? = some q.1[i] := by simp [hlt]
    rw [ed] at hf
    have fin : ∀ G3, SR (bx X) A H0 G0 e2 G3 σ H' → Same G2 G3 → Rep (bx X) G3 q.1[i] x → tG (bx X) EA us g x σ H' fun σ2 H2 => tS (bx X) EA T { D with nx := fun σ' H' => ∃ e3 G3, SR (bx X) A H0 G0 e3 G3 σ' H' ∧ Same G1 G3 ∧ (forL g T (q.1.drop (i + 1)) e3).sat (OutOk (bx X) A H0 G0 D) (XOk (bx X) A H0 G0 EA), ct := fun σ' H' => ∃ e3 G3, SR (bx X) A H0 G0 e3 G3 σ' H' ∧ Same G1 G3 ∧ (forL g T (q.1.drop (i + 1)) e3).sat (OutOk (bx X) A H0 G0 D) (XOk (bx X) A H0 G0 EA), bk := D.nx } σ2 H2 := by
      intro G3 S3 s3 r3
      refine ⟨A, H0, G0, e2, G3, q.1[i], S3, r3, ?_⟩
      unfold forL at hf
      refine Res.sat_mono (Res.sat_bind hf) (fun o ho => ?_) fun _ z => z
      cases o with
      | nx e1 =>
        refine ⟨e1, rfl, fun G4 σ4 H4 S4 s4 _ => ⟨A, H0, G4, e1, G4, ⟨S4.len, Same.refl _, S4.same, fun a h1 h2 => (h1 h2).elim, S4.keep, S4.cell, S4.frsh, S4.dist, S4.slf⟩, ?_⟩⟩
        -- within the body the frozen part only grows
        have up : ∀ {e G5 σ5 H5}, SR (bx X) A H0 G4 e G5 σ5 H5 → SR (bx X) A H0 G0 e G5 σ5 H5 ∧ Same G1 G5 := fun {e G5 σ5 H5} Z => by
          refine ⟨⟨Z.len, S4.ext.trans Z.ext, Z.same, fun a h1 h2 => ?_, Z.keep, Z.cell, Z.frsh, Z.dist, Z.slf⟩, (s2.trans s3).trans (s4.trans Z.ext)⟩
          cases q4 : G4 a with
          | none => exact Z.new a h1 q4
          | some u => exact S4.new a (by rw [q4]; intro z; cases z) h2
        refine Res.sat_mono (Res.sat_bind ho) (fun o2 ho2 => ?_) (fun x hx ca od G' H' a0 a1 a2 a3 a4 a5 => hx ca od G' H' a0 (S4.ext.trans a1) a2 (fun a h1 h2 => ?_) a4 a5)
        · cases o2 with
          | nx e5 => exact fun G5 σ5 H5 S5 => ⟨e5, G5, (up S5).1, (up S5).2, ho2⟩
          | ct e5 => exact fun G5 σ5 H5 S5 => ⟨e5, G5, (up S5).1, (up S5).2, ho2⟩
          | bk e5 => exact fun G5 σ5 H5 S5 => ho2 G5 σ5 H5 (up S5).1
          | rt c e5 => exact fun v G5 σ5 H5 S5 W => ho2 v G5 σ5 H5 (up S5).1 W
        · cases q4 : G4 a with
          | none => exact a3 a h1 q4
          | some u => exact S4.new a (by rw [q4]; intro z; cases z) h2
      | rt c e1 => exact ho.elim
      | bk e1 => exact ho.elim
      | ct e1 => exact ho.elim
    rcases k3 x H' _ eg y with ⟨rfl, rx⟩ | ⟨T, xs, es, rfl, hT, rfl, ee, rx⟩
    · exact fin G2 S2 (Same.refl _) (Rep.mono s2 _ _ rx)
    · obtain ⟨S3, s3⟩ := S2.frozen (u := .tup xs) hT
      exact fin _ S3 s3 (by rw [ee]; exact ⟨T, xs, rfl, SqT.of upd_same, RepL.mono (s2.trans s3) _ _ rx⟩)
  · refine .inl ⟨k2 (by omega), ?_⟩
    have ed : q.1.drop i = [] := List.drop_eq_nil_iff.mpr (by omega)
    rw [ed] at hf
    exact hf G2 σ H S2
end
noncomputable def whileN (t : M Bool) (T : SM) : Nat → SM
  | 0, _ => .stuck
  | n + 1, env => (t env).bind fun p => if p.1 = true then (T p.2).bind fun o => match o with
      | .nx e2 => whileN t T n e2
      | .ct e2 => whileN t T n e2
      | .bk e2 => .ok (.nx e2)
      | .rt c e2 => .ok (.rt c e2)
    else .ok (.nx p.2)
/-- some fuel is enough -/
noncomputable def sWhile (t : M Bool) (T : SM) : SM := fun env => open Classical in if h : ∃ n, whileN t T n env ≠ .stuck then whileN t T (choose h) env else .stuck
section
variable {X : Cx} {EA : XK} {T : SM} {t : M Bool} {c : Expr} {body : List Stmt} {pos : Pos}
theorem ds_while (hp : PassesOwn (model X.prog X.w) X.A X.env X.xe) (hc : DT X EA c t) (hb : DSs X EA body T) : DS X EA (.While c body [] pos) (sWhile t T) := by
  refine ps_imp (ps_while hp hc hb) fun D σ H ⟨A, H0, G0, env, G, S, h⟩ => ?_
  unfold sWhile at h
  split at h
  · rename_i hx
    generalize Classical.choose hx = n at h
    refine ⟨fun m σ H => ∃ e2 G2, SR (bx X) A H0 G0 e2 G2 σ H ∧ (whileN t T m e2).sat (OutOk (bx X) A H0 G0 D) (XOk (bx X) A H0 G0 EA), ⟨n, env, G, S, h⟩, ?_⟩
    rintro m σ H ⟨e2, G2, S2, hw⟩
    cases m with
    | zero => exact hw.elim
    | succ m =>
      unfold whileN at hw
      refine ⟨A, H0, G0, e2, G2, S2, Res.sat_mono (Res.sat_bind hw) (fun p hp G3 H3 S3 s3 => ?_) fun _ z => z⟩
      cases hq : p.1 with
      | true =>
        rw [hq, if_pos rfl] at hp
        rw [if_pos rfl]
        refine ⟨fun σ' H' => ∃ e4 G4, SR (bx X) A H0 G0 e4 G4 σ' H' ∧ (whileN t T m e4).sat (OutOk (bx X) A H0 G0 D) (XOk (bx X) A H0 G0 EA), fun σ' H' z => ⟨m, Nat.lt_succ_self _, z⟩, A, H0, G0, p.2, G3, S3, Res.sat_mono (Res.sat_bind hp) (fun o ho => ?_) fun _ z => z⟩
        cases o with
        | nx e5 => exact fun G5 σ5 H5 S5 => ⟨e5, G5, S5, ho⟩
        | ct e5 => exact fun G5 σ5 H5 S5 => ⟨e5, G5, S5, ho⟩
        | bk e5 => exact fun G5 σ5 H5 S5 => ho G5 σ5 H5 S5
        | rt c e5 => exact fun v G5 σ5 H5 S5 W => ho v G5 σ5 H5 S5 W
      | false => rw [hq, if_neg (by simp)] at hp; rw [if_neg (by simp)]; exact hp G3 σ H3 S3
  · exact h.elim
theorem whileN_mono {n m : Nat} (h : n ≤ m) : ∀ {env}, whileN t T n env ≠ .stuck → whileN t T m env = whileN t T n env := by
  induction n generalizing m with
  | zero => intro env h; exact (h rfl).elim
  | succ n ih =>
    intro env hn
    obtain ⟨m, rfl⟩ : ∃ m', m = m' + 1 := ⟨m - 1, by omega⟩
    unfold whileN at hn ⊢
    cases hq : t env with
    | ok p =>
      rw [hq] at hn
      simp only [Res.bind_ok] at hn ⊢
      split
      · rename_i hp
        rw [if_pos hp] at hn
        cases ho : T p.2 with
        | ok o =>
          rw [ho] at hn
          simp only [Res.bind_ok] at hn ⊢
          cases o with
          | nx e => exact ih (by omega) hn
          | ct e => exact ih (by omega) hn
          | bk e => rfl
          | rt c e => rfl
        | ex x => rfl
        | stuck => rfl
      · rfl
    | ex x => rfl
    | stuck => rfl
theorem sWhile_of {n : Nat} {env : DEnv} {r : Res Out} (h : whileN t T n env = r) (hr : r ≠ .stuck) : sWhile t T env = r := by
  unfold sWhile
  have hx : ∃ n, whileN t T n env ≠ .stuck := ⟨n, by rw [h]; exact hr⟩
  rw [dif_pos hx]
  have h1 := Classical.choose_spec hx
  rcases Nat.le_total n (Classical.choose hx) with z | z
  · rw [whileN_mono z (by rw [h]; exact hr), h]
  · rw [← whileN_mono z h1, h]
end
end DL
namespace DL
open PySem L2
/-- a new value: what is owned is new -/
noncomputable def CellV (B : Bx) (G H G' H' : Hp) (c : Cell) (v : V) : Prop := CellOk B G' H' c (some v) ∧ (c.own = true → ∀ l, v = .ref l → H l = none)
noncomputable def pureSp (B : Bx) (F : List D → Res Cell) : Sp := fun vs H Q E => ∃ G ds, Same G H ∧ RepL B G ds vs ∧
  (F ds).sat (fun c => ∀ v G' H', Same G G' → Same H H' → Same G' H' → (∀ a, G' a ≠ none → G a = none → H a = none) → CellV B G H G' H' c v → Q v H')
    (fun x => ∀ ca od G' H', B.mg x.c = some (.ref ca) → Same G G' → Same H H' → Same G' H' → (∀ a, G' a ≠ none → G a = none → H a = none) → RepX B H G' H' x od → E (.ref ca) od H')
/-- what a body hands back -/
noncomputable def outC : Out → Res Cell
  | .rt c _ => .ok c
  | .nx _ => .ok (.fz .non)
  | _ => .stuck
noncomputable def runs (n k : Nat) (T : SM) : List D → Res Cell := fun ds => if ds.length = n then (T (ds.map Cell.fz ++ List.replicate k Cell.no)).bind outC else .stuck
/-- a def that may be called by its name -/
structure DCal (P : Program) (w : World) (K : Fg) (mg : Str → Option Value) (base : Heap) (CX : CXT) (k : Nat) (x : Str) (F : List D → Res Cell) : Prop where
  ex : ∃ f fd ps, FnOk P w K mg base CX k f fd ps (pureSp ⟨K, P, w, mg⟩ F) ∧ mg x = some (.ref f) ∧ PySem.W.keepIn K (.ref f) = true ∧ Binds K fd ps []
section
variable {B : Bx} {G : Hp}
theorem start_cells {G H : Hp} : ∀ {ds : List D} {vs : List V} (k : Nat), RepL B G ds vs → ∀ (i : Nat) c, (ds.map Cell.fz ++ List.replicate k Cell.no)[i]? = some c → CellOk B G H c (((vs.map some ++ List.replicate k none : St))[i]?.join)
  | [], vs, k, h, i, c, e => by
    have : c = .no := by
      have := List.mem_of_getElem? e
      simp at this
      exact this.2
    rw [this]; trivial
  | d :: ds, vs, k, ⟨x, r, ev, hd, ht⟩, 0, c, e => by
    rw [ev]; simp at e; subst e
    exact ⟨x, by simp, hd⟩
  | d :: ds, vs, k, ⟨x, r, ev, hd, ht⟩, i + 1, c, e => by
    rw [ev]
    have := start_cells (H := H) k ht i c (by simpa using e)
    simpa using this
theorem fz_not_own : ∀ {ds : List D} {k : Nat} {i : Nat} {c : Cell}, (ds.map Cell.fz ++ List.replicate k Cell.no)[i]? = some c → c.own = false := fun {ds k i c} e => by
  have := List.mem_of_getElem? e
  rcases List.mem_append.mp this with h | h
  · obtain ⟨d, _, rfl⟩ := List.mem_map.mp h; rfl
  · have := (List.mem_replicate.mp h).2; rw [this]; rfl
theorem start_SR {B : Bx} {G H : Hp} {ds : List D} {vs : List V} (k : Nat) (hs : Same G H) (r : RepL B G ds vs) : SR B none H G (ds.map Cell.fz ++ List.replicate k Cell.no) G (vs.map some ++ List.replicate k none) H where
  len := by simp [r.length]
  ext := Same.refl _
  same := hs
  new := fun a h1 h2 => (h1 h2).elim
  keep := fun _ _ _ e => e
  cell := start_cells k r
  frsh := fun i c l e ho => by rw [fz_not_own e] at ho; cases ho
  dist := fun i j c c' l e _ ho => by rw [fz_not_own e] at ho; cases ho
  slf := fun a h => by cases h
end
section
variable {X : Cx} {EA : XK} {a b c e : Expr} {es : List Expr} {pos p p2 : Pos} {f g : M D} {r : M (List D)} {x : Str} {k j : Nat} {F : List D → Res Cell}
noncomputable def gCall (F : List D → Res Cell) (r : M (List D)) : M Cell := fun env => (r env).bind fun p => (F p.1).map fun c => (c, p.2)
/-- what is new to the heap is new to the entry -/
theorem SR.fresh0 {B : Bx} {A H0 G0 env G σ H} (S : SR B A H0 G0 env G σ H) {l : Addr} (hl : H l = none) : H0 l = none ∧ ∀ (i : Nat) c', env[i]? = some c' → c'.own = true → σ[i]? ≠ some (some (.ref l)) := by
  have hd : ∀ (i : Nat) c', env[i]? = some c' → c'.own = true → σ[i]? ≠ some (some (.ref l)) := fun i c' e1 e2 e3 => by
    obtain ⟨l', u, z1, z2, z3⟩ := (S.cell i c' e1).addr e2
    rw [join_of e3] at z1; cases z1
    rw [hl] at z2; cases z2
  refine ⟨?_, hd⟩
  cases e0 : H0 l with
  | none => rfl
  | some o =>
    by_cases hA : A = some l
    · obtain ⟨z, c', ns, ds, ec⟩ := S.slf l hA
      exact (hd 0 _ ec rfl z).elim
    · rw [S.keep l o hA e0] at hl; cases hl
theorem CellsV.mono {B : Bx} {H0 H1 G H : Hp} (h : ∀ l, H1 l = none → H0 l = none) : ∀ {cs xs}, CellsV B H1 G H cs xs → CellsV B H0 G H cs xs
  | [], _, z => z
  | c :: cs, _, ⟨x, r, e, h1, h2, h3⟩ => ⟨x, r, e, h1, fun ho l el => h _ (h2 ho l el), CellsV.mono h h3⟩
theorem SR.repX {B : Bx} {A H0 G0 env G σ H G' H'} (S : SR B A H0 G0 env G σ H) {x : XD} {od : Option Addr} (h : RepX B H G' H' x od) : RepX B H0 G' H' x od := by
  rcases h with h | ⟨d, xs, h1, h2, h3, h4, h5⟩
  · exact .inl h
  · exact .inr ⟨d, xs, h1, h2, (S.fresh0 h3).1, h4.mono fun l hl => (S.fresh0 hl).1, h5⟩
theorem call_end {B : Bx} {A H0 G0 env G σ H} {E : XK} {Q : VK} (S : SR B A H0 G0 env G σ H) {ds : List D} {vs : List V} (rv : RepL B G ds vs)
    (h : ((F ds).map fun c => (c, env)).sat (fun r => ∀ v G' H', SR B A H0 G0 r.2 G' σ H' → Same G G' → Val B H0 r.2 G' σ H' r.1 v → Q v H') (XOk B A H0 G0 E)) : pureSp B F vs H Q E := by
  refine ⟨G, ds, S.same, rv, Res.sat_mono (Res.sat_map h) (fun c hc v G' H' h1 h2 h3 h4 h5 => ?_) (fun x hx ca od G' H' h0 h1 h2 h3 h4 h5 => ?_)⟩
  · have S' := S.step h1 h4 h2 h3
    exact hc v G' H' S' h1 ⟨h5.1, fun l ho e => S.fresh0 (h5.2 ho l e)⟩
  · have S' := S.step h1 h4 h2 h3
    exact hx ca od G' H' h0 S'.ext h3 S'.new S'.keep (S.repX h5)
theorem de_call (c : DCal X.prog X.w X.K X.mg X.base CX0 k x F) (hr : Room j X.A) (hk : k ≤ j) (hg : Gl X x) (ha : DA X EA (e :: es) r) (hdb : (x == ("__debug__" : Str)) = false := by decide)
    (he : starEach (e :: es) X.env = (false, eval e X.env) :: starEach es X.env := by rfl) (hpl : (backTo pos (starEach es X.env)).any (·.1) = false := by rfl) : DE X EA (.Call (.Name x p) (e :: es) [] pos) (gCall F r) := by
  obtain ⟨f, fd, ps, Fn, hm, hkp, hb⟩ := c.ex
  refine pe_imp (pe_call (E := EA) Fn (hr.mono hk) hg hm hkp hb .nil pass0 ha hdb he hpl) fun σ H Q ⟨A, H0, G0, env, G, S, h1⟩ => ?_
  refine ⟨A, H0, G0, env, G, S, Res.sat_mono (Res.sat_bind h1) (fun q hq vs G1 H1 S1 s1 rv => ?_) fun _ z => z⟩
  show pureSp _ F (vs ++ []) H1 Q EA
  rw [List.append_nil]
  exact call_end S1 rv (Res.sat_mono hq (fun z hz v G' H' S' s' W => hz v G' H' S' (s1.trans s') W) fun _ z => z)
theorem de_call0 (c : DCal X.prog X.w X.K X.mg X.base CX0 k x F) (hr : Room j X.A) (hk : k ≤ j) (hg : Gl X x) (hdb : (x == ("__debug__" : Str)) = false := by decide) : DE X EA (.Call (.Name x p) [] [] pos) (gCall F aNil) := by
  obtain ⟨f, fd, ps, Fn, hm, hkp, hb⟩ := c.ex
  refine pe_imp (pe_call0 (E := EA) Fn (hr.mono hk) hg hm hkp hb .nil pass0 hdb) fun σ H Q ⟨A, H0, G0, env, G, S, h1⟩ => ?_
  show pureSp _ F ([] ++ []) H Q EA
  exact call_end S RepL.nil h1
theorem RepL.atI {B : Bx} {G : Hp} {ds : List D} {xs : List V} {i : Int} {d : D} (h : RepL B G ds xs) (e : L2.atI ds i = some d) : ∃ v, L2.atI xs i = some v ∧ Rep B G d v := by
  unfold L2.atI at e ⊢
  rw [h.length]
  cases q : ixN ds.length i with
  | none => rw [q] at e; cases e
  | some j => rw [q] at e; exact h.get e
noncomputable def hIx : D → D → Option D
  | .lst ds, .int i => L2.atI ds i
  | .rol ns, .int i => (L2.atI ns i).map D.int
  | .tup ds, .int i => L2.atI ds i
  | .str z, .int i => if z.length ≤ sizeLine then (L2.atI z.cps.toList i).map fun c => .str (sgn c) else none
  | _, _ => none
theorem atI_map {α β : Type} (f : α → β) (xs : List α) (i : Int) : L2.atI (xs.map f) i = (L2.atI xs i).map f := by
  unfold L2.atI
  rw [List.length_map]
  cases ixN xs.length i with
  | none => rfl
  | some j => simp
theorem df_ix (ha : DF X EA a f) (hb : DF X EA b g) (hs : PlainIx b := by exact fun _ _ => rfl) : DF X EA (.Subscript a b pos) (mOpt2 hIx f g) := by
  refine pe_imp (pe_ix ix_seq ha hb hs) fun σ H Q ⟨A, H0, G0, env, G, S, h1⟩ => ?_
  refine seq2 (k := fun a b e2 => (optR (hIx a b)).map fun d => (d, e2)) S h1 fun x y G2 H2 a b e2 S2 s2 r1 r2 h2 => ?_
  obtain ⟨d, ed, h3⟩ := optR_sat (Res.sat_map h2)
  cases a <;> cases b <;> simp only [hIx] at ed <;> try (cases ed; done)
  · cases r2
    split at ed
    · rename_i z i hz
      cases q : L2.atI z.cps.toList i with
      | none => rw [q] at ed; cases ed
      | some c => rw [q] at ed; cases ed; cases r1; exact .inr (.inr ⟨_, _, c, rfl, rfl, hz, q, h3 _ G2 H2 S2 s2 rfl⟩)
    · cases ed
  · cases r2
    obtain ⟨l, xs, rfl, hl, r⟩ := r1
    obtain ⟨v, e1, e2⟩ := r.atI ed
    exact .inr (.inl ⟨l, xs, _, v, rfl, rfl, S2.same.seqT hl, e1, h3 _ G2 H2 S2 s2 e2⟩)
  · cases r2
    obtain ⟨l, xs, rfl, hl, r⟩ := r1
    obtain ⟨v, e1, e2⟩ := r.atI ed
    exact .inl ⟨l, xs, _, v, rfl, rfl, SqL.of (S2.same _ _ hl), e1, h3 _ G2 H2 S2 s2 e2⟩
  · cases r2
    obtain ⟨l, rfl, hl⟩ := r1
    rename_i ns i
    cases q : L2.atI ns i with
    | none => rw [q] at ed; cases ed
    | some n =>
      rw [q] at ed; cases ed
      exact .inl ⟨l, _, _, .int n, rfl, rfl, S2.same.seq hl, by rw [atI_map, q]; rfl, h3 _ G2 H2 S2 s2 rfl⟩
/-- of a name, what it holds then -/
noncomputable def gIxN (i : Nat) (g : M D) : M D := fun env => (optR (env[i]?.bind cLst)).bind fun _ => (g env).bind fun q => match q.1 with
  | .int j => (optR ((q.2[i]?.bind cLst).bind fun ds => L2.atI ds j)).map fun d => (d, q.2)
  | _ => .stuck
theorem df_ixN {i : Nat} (h : PE X (.Name x p) (tVar i)) (hb : DF X EA b g) (hs : PlainIx b := by exact fun _ _ => rfl) : DF X EA (.Subscript (.Name x p) b pos) (gIxN i g) := by
  refine pe_imp (pe_ix ix_seq h hb hs) fun σ H Q ⟨A, H0, G0, env, G, S, h1⟩ => ?_
  obtain ⟨ds0, ed0, h1⟩ := optR_sat (Res.sat_bind h1)
  obtain ⟨l, xs0, ev, _, _⟩ := cLst_at S ed0
  refine ⟨_, ev, A, H0, G0, env, G, S, Res.sat_mono (Res.sat_bind h1) (fun q hq y G2 H2 S2 s2 r2 => ?_) fun _ z => z⟩
  cases hd : q.1 with
  | int j =>
    rw [hd] at hq r2; cases r2
    obtain ⟨d, ed, h3⟩ := optR_sat (Res.sat_map hq)
    cases hc : q.2[i]?.bind cLst with
    | none => rw [hc] at ed; cases ed
    | some ds =>
      rw [hc] at ed
      obtain ⟨l', xs, e1, e2, e3⟩ := cLst_at S2 hc
      rw [ev] at e1; cases e1
      obtain ⟨w, a1, a2⟩ := e3.atI (show L2.atI ds j = some d from ed)
      exact .inl ⟨l, xs, j, w, rfl, rfl, e2, a1, h3 w G2 H2 S2 s2 a2⟩
  | _ => rw [hd] at hq; exact hq.elim
/-- a slice's part -/
noncomputable def mPart : Option (M D) → M (Option Int)
  | none => fun env => .ok (none, env)
  | some f => fun env => (f env).bind fun p => match p.1 with
    | .int i => .ok (some i, p.2)
    | _ => .stuck
noncomputable def tP (B : Bx) (EA : XK) (g : M (Option Int)) : TO := fun σ H Q => ∃ A H0 G0 env G, SR B A H0 G0 env G σ H ∧
  (g env).sat (fun r => ∀ G' H', SR B A H0 G0 r.2 G' σ H' → Same G G' → Q r.1 H') (XOk B A H0 G0 EA)
noncomputable abbrev DP (X : Cx) (EA : XK) (e : Option Expr) (g : M (Option Int)) : Prop := PO X e (tP (bx X) EA g)
theorem po_imp {e : Option Expr} {t t' : TO} (h : PO X e t) (hi : ∀ σ H Q, t' σ H Q → t σ H Q) : PO X e t' := ⟨fun pins s σ H Q I hw => h.run pins s σ H Q I (hi _ _ _ hw)⟩
theorem dp_none : DP X EA none (mPart none) := po_imp po_none fun σ H Q ⟨A, H0, G0, env, G, S, h1⟩ => h1 G H S (Same.refl _)
theorem dp_some (h : DF X EA e f) : DP X EA (some e) (mPart (some f)) := po_imp (po_some h) fun σ H Q ⟨A, H0, G0, env, G, S, h1⟩ => by
  refine seq1 (β := Option Int × DEnv) (k := fun d e2 => match d with | .int i => .ok (some i, e2) | _ => .stuck) S h1 fun x G2 H2 d e2 S2 s2 r1 h2 => ?_
  cases d with
  | int i => cases r1; exact ⟨i, rfl, h2 G2 H2 S2 s2⟩
  | _ => exact h2.elim
variable {lo hi : Option Expr} {ml mh : M (Option Int)}
noncomputable def cutD (xs : List D) (lo hi : Option Int) : List D := (xs.drop (HT.sIx xs.length 0 lo)).take (HT.sIx xs.length xs.length hi - HT.sIx xs.length 0 lo)
noncomputable def gSlS (f : M D) (ml mh : M (Option Int)) : M D := fun env => (f env).bind fun p => (ml p.2).bind fun q => (mh q.2).bind fun r => match p.1 with
  | .str z => if z.length ≤ sizeLine then .ok (.str (cutS z q.1 r.1), r.2) else .stuck
  | _ => .stuck
theorem df_slS (ha : DF X EA a f) (hl : DP X EA lo ml) (hh : DP X EA hi mh) : DF X EA (.Subscript a (.Slice lo hi none p2) pos) (gSlS f ml mh) := by
  refine pe_imp (pe_slice sl_str ha hl hh) fun σ H Q ⟨A, H0, G0, env, G, S, h1⟩ => ?_
  refine seq1 (β := D × DEnv) (k := fun d e2 => (ml e2).bind fun q => (mh q.2).bind fun r => match d with | .str z => if z.length ≤ sizeLine then .ok (.str (cutS z q.1 r.1), r.2) else .stuck | _ => .stuck) S h1 fun x G1 H1 d e1 S1 s1 r1 h2 => ?_
  refine ⟨A, H0, G0, e1, G1, S1, Res.sat_mono (Res.sat_bind h2) (fun q hq G2 H2 S2 s2 => ?_) fun _ z => z⟩
  refine ⟨A, H0, G0, q.2, G2, S2, Res.sat_mono (Res.sat_bind hq) (fun w hw G3 H3 S3 s3 => ?_) fun _ z => z⟩
  cases d with
  | str z =>
    simp only at hw
    split at hw
    · rename_i hz; cases r1; exact ⟨z, rfl, hz, hw _ G3 H3 S3 (s1.trans (s2.trans s3)) rfl⟩
    · exact hw.elim
  | _ => exact hw.elim
noncomputable def gSlL (f : M D) (ml mh : M (Option Int)) : M Cell := fun env => (f env).bind fun p => (ml p.2).bind fun q => (mh q.2).bind fun r => match hLst p.1 with
  | some ds => .ok (.ow (cutD ds q.1 r.1), r.2)
  | _ => .stuck
theorem cut_rep {B : Bx} {G : Hp} {ds : List D} {xs : List V} (r : RepL B G ds xs) (l h : Option Int) : RepL B G (cutD ds l h) (cutV xs l h) := by
  unfold cutD cutV
  rw [r.length]
  exact (r.drop _).take _
/-- a list that is made new -/
theorem new_list {B : Bx} {A H0 G0 env G σ H} {ds : List D} {xs : List V} {Q : VK} {G1 : Hp} (S : SR B A H0 G0 env G σ H) (r : RepL B G ds xs) (s1 : Same G1 G) (h : ∀ v G' H', SR B A H0 G0 env G' σ H' → Same G1 G' → Val B H0 env G' σ H' (.ow ds) v → Q v H') : ∀ p, H p = none → Q (.ref p) (upd H p (.lst xs)) := fun p hp => by
  obtain ⟨S2, g2, h02, o2⟩ := S.laid (u := .lst xs) hp
  exact h _ _ _ S2 s1 ⟨⟨p, xs, rfl, upd_same, g2, r⟩, fun l _ e => by cases e; exact ⟨h02, fun i c' e1 e2 => o2 i c' e1 e2⟩⟩
theorem de_slL (ha : DF X EA a f) (hl : DP X EA lo ml) (hh : DP X EA hi mh) : DE X EA (.Subscript a (.Slice lo hi none p2) pos) (gSlL f ml mh) := by
  refine pe_imp (pe_slice sl_list ha hl hh) fun σ H Q ⟨A, H0, G0, env, G, S, h1⟩ => ?_
  refine seq1 (β := Cell × DEnv) (k := fun d e2 => (ml e2).bind fun q => (mh q.2).bind fun r => match hLst d with | some ds => .ok (.ow (cutD ds q.1 r.1), r.2) | _ => .stuck) S h1 fun x G1 H1 d e1 S1 s1 r1 h2 => ?_
  refine ⟨A, H0, G0, e1, G1, S1, Res.sat_mono (Res.sat_bind h2) (fun q hq G2 H2 S2 s2 => ?_) fun _ z => z⟩
  refine ⟨A, H0, G0, q.2, G2, S2, Res.sat_mono (Res.sat_bind hq) (fun w hw G3 H3 S3 s3 => ?_) fun _ z => z⟩
  cases hd : hLst d with
  | none => rw [hd] at hw; exact hw.elim
  | some ds =>
    rw [hd] at hw
    obtain ⟨l, xs, rfl, q1, w1⟩ := hLst_rep r1 hd
    have s13 := s2.trans s3
    refine ⟨l, xs, rfl, S3.same.seq (s13.seq q1), new_list S3 (cut_rep (RepL.mono s13 _ _ w1) _ _) (s1.trans s13) fun v G' H' S' s' W => hw v G' H' S' s' W⟩
/-- a call that hands back a scalar, or a part of its arguments -/
theorem df_callB {id : String} {rr : List V → Hp → VK → Prop} (hc : CallR X (.builtin id) rr) (h : List D → Option D)
    (hr : ∀ G H vs ds d (Q : VK), Same G H → RepL (bx X) G ds vs → h ds = some d → (∀ v, Rep (bx X) G d v → Q v H) → rr vs H Q)
    (hg : Gl X x) (hm : X.mg x = none) (hv : bootBuiltins x = some (.builtin id)) (ha : DA X EA (e :: es) r) (hn : x ≠ "__name__" := by decide) (hdb : (x == ("__debug__" : Str)) = false := by decide)
    (he : starEach (e :: es) X.env = (false, eval e X.env) :: starEach es X.env := by rfl) (hpl : (backTo pos (starEach es X.env)).any (·.1) = false := by rfl) : DF X EA (.Call (.Name x p) (e :: es) [] pos) (mOpt h r) := by
  refine pe_imp (pe_callB hc hg hm hv ha hn hdb he hpl) fun σ H Q ⟨A, H0, G0, env, G, S, h1⟩ => ?_
  refine ⟨A, H0, G0, env, G, S, Res.sat_mono (Res.sat_bind h1) (fun q hq vs G1 H1 S1 s1 rv => ?_) fun _ z => z⟩
  obtain ⟨d, ed, h3⟩ := optR_sat (Res.sat_map hq)
  exact hr G1 H1 vs q.1 d Q S1.same rv ed fun v rv => h3 v G1 H1 S1 s1 rv
theorem df_callT {T : String} {rr : List V → Hp → VK → Prop} (hc : CallR X (.type T) rr) (h : List D → Option D)
    (hr : ∀ G H vs ds d (Q : VK), Same G H → RepL (bx X) G ds vs → h ds = some d → (∀ v, Rep (bx X) G d v → Q v H) → rr vs H Q)
    (hg : Gl X x) (hm : X.mg x = none) (hv : bootBuiltins x = some (.type T)) (ha : DA X EA (e :: es) r) (hn : x ≠ "__name__" := by decide) (hdb : (x == ("__debug__" : Str)) = false := by decide)
    (he : starEach (e :: es) X.env = (false, eval e X.env) :: starEach es X.env := by rfl) (hpl : (backTo pos (starEach es X.env)).any (·.1) = false := by rfl) : DF X EA (.Call (.Name x p) (e :: es) [] pos) (mOpt h r) := by
  refine pe_imp (pe_callTy hc hg hm hv ha hn hdb he hpl) fun σ H Q ⟨A, H0, G0, env, G, S, h1⟩ => ?_
  refine ⟨A, H0, G0, env, G, S, Res.sat_mono (Res.sat_bind h1) (fun q hq vs G1 H1 S1 s1 rv => ?_) fun _ z => z⟩
  obtain ⟨d, ed, h3⟩ := optR_sat (Res.sat_map hq)
  exact hr G1 H1 vs q.1 d Q S1.same rv ed fun v rv => h3 v G1 H1 S1 s1 rv
/-- .. a new list -/
theorem de_callT {T : String} {rr : List V → Hp → VK → Prop} (hc : CallR X (.type T) rr) (h : List D → Option (List D))
    (hr : ∀ G H vs ds es (Q : VK), Same G H → RepL (bx X) G ds vs → h ds = some es → (∀ xs, RepL (bx X) G es xs → ∀ p, H p = none → Q (.ref p) (upd H p (.lst xs))) → rr vs H Q)
    (hg : Gl X x) (hm : X.mg x = none) (hv : bootBuiltins x = some (.type T)) (ha : DA X EA (e :: es) r) (hn : x ≠ "__name__" := by decide) (hdb : (x == ("__debug__" : Str)) = false := by decide)
    (he : starEach (e :: es) X.env = (false, eval e X.env) :: starEach es X.env := by rfl) (hpl : (backTo pos (starEach es X.env)).any (·.1) = false := by rfl) : DE X EA (.Call (.Name x p) (e :: es) [] pos) (mMap Cell.ow (mOpt h r)) := by
  refine pe_imp (pe_callTy hc hg hm hv ha hn hdb he hpl) fun σ H Q ⟨A, H0, G0, env, G, S, h1⟩ => ?_
  refine ⟨A, H0, G0, env, G, S, Res.sat_mono (Res.sat_bind (Res.sat_map h1)) (fun q hq vs G1 H1 S1 s1 rv => ?_) fun _ z => z⟩
  obtain ⟨d, ed, h3⟩ := optR_sat (Res.sat_map hq)
  exact hr G1 H1 vs q.1 d Q S1.same rv ed fun xs rx => new_list S1 rx s1 fun v G' H' S' s' W => h3 v G' H' S' s' W
theorem repL1 {B : Bx} {G : Hp} {d : D} {vs : List V} (r : RepL B G [d] vs) : ∃ v, vs = [v] ∧ Rep B G d v := by
  obtain ⟨x, xr, e, h, t⟩ := r
  have : xr = [] := t
  exact ⟨x, by rw [e, this], h⟩
theorem repL2 {B : Bx} {G : Hp} {d d' : D} {vs : List V} (r : RepL B G [d, d'] vs) : ∃ v w, vs = [v, w] ∧ Rep B G d v ∧ Rep B G d' w := by
  obtain ⟨x, xr, e, h, t⟩ := r
  obtain ⟨y, rfl, h2⟩ := repL1 t
  exact ⟨x, y, e, h, h2⟩
noncomputable def hLen : List D → Option D
  | [.lst ds] => some (.int ds.length)
  | [.rol ds] => some (.int ds.length)
  | [.tup ds] => some (.int ds.length)
  | [.str z] => if z.length ≤ sizeLine then some (.int z.length) else none
  | _ => none
theorem df_len (hg : Gl X "len") (hm : X.mg "len" = none) (ha : DA X EA [e] r) (he : starEach [e] X.env = (false, eval e X.env) :: starEach [] X.env := by rfl) (hpl : (backTo pos (starEach [] X.env)).any (·.1) = false := by rfl) : DF X EA (.Call (.Name "len" p) [e] [] pos) (mOpt hLen r) :=
  df_callB call_len hLen (fun G H vs ds d Q sm rv h q => by
    unfold hLen at h
    split at h
    · cases h
      obtain ⟨v, rfl, rw'⟩ := repL1 rv
      obtain ⟨l, xs, rfl, hl, rx⟩ := rw'
      exact ⟨_, _, rfl, .inl ⟨xs, SqL.of (sm _ _ hl), rx.length.symm⟩, q _ rfl⟩
    · cases h
      obtain ⟨v, rfl, rw'⟩ := repL1 rv
      obtain ⟨l, rfl, hl⟩ := rw'
      exact ⟨_, _, rfl, .inl ⟨_, sm.seq hl, by simp⟩, q _ rfl⟩
    · cases h
      obtain ⟨v, rfl, rw'⟩ := repL1 rv
      obtain ⟨l, xs, rfl, hl, rx⟩ := rw'
      exact ⟨_, _, rfl, .inr ⟨xs, sm.seqT hl, rx.length.symm⟩, q _ rfl⟩
    · split at h
      · rename_i hz; cases h
        obtain ⟨v, rfl, rw'⟩ := repL1 rv
        cases rw'
        exact ⟨_, _, rfl, ⟨hz, rfl⟩, q _ rfl⟩
      · cases h
    · cases h) hg hm (by decide +kernel) ha (by decide) (by decide) he hpl
/-- len of a name, owned or frozen -/
noncomputable def gLenN (i : Nat) : M D := fun env => (optR (env[i]?.bind cLst)).map fun ds => (.int ds.length, env)
theorem df_lenN {i : Nat} (h : PE X (.Name x p) (tVar i)) (hg : Gl X "len") (hm : X.mg "len" = none) (he : starEach [.Name x p] X.env = (false, eval (.Name x p) X.env) :: starEach [] X.env := by rfl) (hpl : (backTo pos (starEach [] X.env)).any (·.1) = false := by rfl) : DF X EA (.Call (.Name "len" p2) [.Name x p] [] pos) (gLenN i) := by
  refine pe_imp (pe_callB call_len hg hm (by decide +kernel) (pa_cons (dq_name (EA := EA) h) pa_nil) (by decide) (by decide) he hpl) fun σ H Q ⟨A, H0, G0, env, G, S, h1⟩ => ?_
  obtain ⟨ds, ed, h3⟩ := optR_sat (Res.sat_map h1)
  refine ⟨A, H0, G0, env, G, S, ?_⟩
  unfold gLstN
  rw [ed]
  exact fun l xs G' H' S' s' hl rx => ⟨_, _, rfl, .inl ⟨xs, hl, rfl⟩, h3 _ G' H' S' s' (by show V.int _ = V.int _; rw [rx.length])⟩
noncomputable def hList : List D → Option (List D)
  | [.lst ds] => some ds
  | [.rol ds] => some (ds.map D.int)
  | [.tup ds] => some ds
  | _ => none
theorem de_list (hg : Gl X "list") (hm : X.mg "list" = none) (ha : DA X EA [e] r) (he : starEach [e] X.env = (false, eval e X.env) :: starEach [] X.env := by rfl) (hpl : (backTo pos (starEach [] X.env)).any (·.1) = false := by rfl) : DE X EA (.Call (.Name "list" p) [e] [] pos) (mMap Cell.ow (mOpt hList r)) :=
  de_callT call_list_of hList (fun G H vs ds d Q sm rv h q => by
    unfold hList at h
    split at h
    · cases h
      obtain ⟨v, rfl, rw'⟩ := repL1 rv
      obtain ⟨l, xs, rfl, hl, rx⟩ := rw'
      exact ⟨l, xs, rfl, .inl (SqL.of (sm _ _ hl)), q xs rx⟩
    · cases h
      obtain ⟨v, rfl, rw'⟩ := repL1 rv
      obtain ⟨l, rfl, hl⟩ := rw'
      exact ⟨l, _, rfl, .inl (sm.seq hl), q _ (RepL.of_ints _)⟩
    · cases h
      obtain ⟨v, rfl, rw'⟩ := repL1 rv
      obtain ⟨l, xs, rfl, hl, rx⟩ := rw'
      exact ⟨l, xs, rfl, .inr (sm.seqT hl), q xs rx⟩
    · cases h) hg hm (by decide +kernel) ha (by decide) (by decide) he hpl
noncomputable def hInt : List D → Option D
  | [.int i] => some (.int i)
  | [.bl b] => some (.int (if b then 1 else 0))
  | _ => none
theorem df_callInt (hg : Gl X "int") (hm : X.mg "int" = none) (ha : DA X EA [e] r) (he : starEach [e] X.env = (false, eval e X.env) :: starEach [] X.env := by rfl) (hpl : (backTo pos (starEach [] X.env)).any (·.1) = false := by rfl) : DF X EA (.Call (.Name "int" p) [e] [] pos) (mOpt hInt r) :=
  df_callT call_int1 hInt (fun G H vs ds d Q sm rv h q => by
    unfold hInt at h
    split at h
    · cases h
      obtain ⟨v, rfl, rw'⟩ := repL1 rv
      cases rw'
      exact .inl ⟨_, rfl, q _ rfl⟩
    · cases h
      obtain ⟨v, rfl, rw'⟩ := repL1 rv
      cases rw'
      exact .inr ⟨_, rfl, q _ rfl⟩
    · cases h) hg hm (by decide +kernel) ha (by decide) (by decide) he hpl
noncomputable def hMin2 : List D → Option D
  | [.int i, .int j] => some (.int (if j < i then j else i))
  | _ => none
theorem df_min2 (hca : X.calm = true) (hg : Gl X "min") (hm : X.mg "min" = none) (ha : DA X EA [a, b] r) (he : starEach [a, b] X.env = (false, eval a X.env) :: starEach [b] X.env := by rfl) (hpl : (backTo pos (starEach [b] X.env)).any (·.1) = false := by rfl) : DF X EA (.Call (.Name "min" p) [a, b] [] pos) (mOpt hMin2 r) :=
  df_callB (call_min2 hca) hMin2 (fun G H vs ds d Q sm rv h q => by
    unfold hMin2 at h
    split at h
    · cases h
      obtain ⟨v, w, rfl, r1, r2⟩ := repL2 rv
      cases r1; cases r2
      exact ⟨_, _, rfl, q _ rfl⟩
    · cases h) hg hm (by decide +kernel) ha (by decide) (by decide) he hpl
noncomputable def hMax2 : List D → Option D
  | [.int i, .int j] => some (.int (if j > i then j else i))
  | _ => none
theorem df_max2 (hca : X.calm = true) (hg : Gl X "max") (hm : X.mg "max" = none) (ha : DA X EA [a, b] r) (he : starEach [a, b] X.env = (false, eval a X.env) :: starEach [b] X.env := by rfl) (hpl : (backTo pos (starEach [b] X.env)).any (·.1) = false := by rfl) : DF X EA (.Call (.Name "max" p) [a, b] [] pos) (mOpt hMax2 r) :=
  df_callB (call_max2 hca) hMax2 (fun G H vs ds d Q sm rv h q => by
    unfold hMax2 at h
    split at h
    · cases h
      obtain ⟨v, w, rfl, r1, r2⟩ := repL2 rv
      cases r1; cases r2
      exact ⟨_, _, rfl, q _ rfl⟩
    · cases h) hg hm (by decide +kernel) ha (by decide) (by decide) he hpl
/-- ints of a list -/
noncomputable def intsOf : List D → Option (List Int)
  | [] => some []
  | .int i :: r => (intsOf r).map (i :: ·)
  | _ :: _ => none
theorem intsOf_rep {B : Bx} {G : Hp} : ∀ {ds : List D} {ns : List Int} {xs : List V}, intsOf ds = some ns → RepL B G ds xs → xs = ns.map V.int
  | [], ns, xs, h, r => by cases h; exact r
  | d :: ds, ns, xs, h, ⟨x, xr, e, hd, ht⟩ => by
    cases d <;> simp only [intsOf] at h <;> try (cases h; done)
    rename_i i
    cases q : intsOf ds with
    | none => rw [q] at h; cases h
    | some ms =>
      rw [q] at h; cases h
      have hx : x = V.int i := hd
      rw [e, hx, intsOf_rep q ht]; rfl
theorem intsOf_map : ∀ ns : List Int, intsOf (ns.map D.int) = some ns
  | [] => rfl
  | n :: ns => by simp [intsOf, intsOf_map ns]
noncomputable def hInts : D → Option (List Int)
  | .lst ds => intsOf ds
  | .rol ns => some ns
  | _ => none
theorem hInts_rep {B : Bx} {G : Hp} {d : D} {ns : List Int} {v : V} (h : hInts d = some ns) (r : Rep B G d v) : ∃ l, v = .ref l ∧ SqL B.K G l (ns.map V.int) := by
  cases d <;> simp only [hInts] at h <;> try (cases h; done)
  · obtain ⟨l, xs, rfl, hl, rx⟩ := r
    rw [intsOf_rep h rx] at hl
    exact ⟨l, rfl, SqL.of hl⟩
  · cases h
    obtain ⟨l, rfl, hl⟩ := r
    exact ⟨l, rfl, hl⟩
/-- the least of ints -/
noncomputable def leastI : List Int → Option Int
  | [] => none
  | n :: ns => some (ns.foldl (fun a b => if b < a then b else a) n)
theorem foldl_min : ∀ (ns : List Int) (n : Int), (ns.foldl (fun a b => if b < a then b else a) n ∈ n :: ns) ∧ ∀ y ∈ n :: ns, ns.foldl (fun a b => if b < a then b else a) n ≤ y
  | [], n => ⟨by simp, by simp⟩
  | m :: ns, n => by
    obtain ⟨h1, h2⟩ := foldl_min ns (if m < n then m else n)
    show (ns.foldl _ (if m < n then m else n) ∈ _) ∧ ∀ y ∈ _, ns.foldl _ (if m < n then m else n) ≤ y
    generalize ns.foldl (fun a b => if b < a then b else a) (if m < n then m else n) = z at h1 h2 ⊢
    have hz := h2 _ List.mem_cons_self
    refine ⟨?_, fun y hy => ?_⟩
    · rcases List.mem_cons.mp h1 with e | e
      · rw [e]; split <;> simp
      · simp [e]
    · rcases List.mem_cons.mp hy with e | e
      · rw [e]; split at hz <;> omega
      · rcases List.mem_cons.mp e with e | e
        · rw [e]; split at hz <;> omega
        · exact h2 y (List.mem_cons_of_mem _ e)
theorem leastI_spec {ns : List Int} {m : Int} (h : leastI ns = some m) : m ∈ ns ∧ ∀ y ∈ ns, m ≤ y := by
  cases ns with
  | nil => cases h
  | cons n ns => cases h; exact foldl_min ns n
noncomputable def hMin : List D → Option D
  | [d] => (hInts d).bind fun ns => (leastI ns).map D.int
  | _ => none
theorem df_min (hca : X.calm = true) (hg : Gl X "min") (hm : X.mg "min" = none) (ha : DA X EA [e] r) (he : starEach [e] X.env = (false, eval e X.env) :: starEach [] X.env := by rfl) (hpl : (backTo pos (starEach [] X.env)).any (·.1) = false := by rfl) : DF X EA (.Call (.Name "min" p) [e] [] pos) (mOpt hMin r) :=
  df_callB (cr_min hca) hMin (fun G H vs ds d Q sm rv h q => by
    unfold hMin at h
    split at h
    · rename_i dd
      cases hi : hInts dd with
      | none => rw [hi] at h; cases h
      | some ns =>
        rw [hi] at h
        simp only [Option.bind_some] at h
        cases hl : leastI ns with
        | none => rw [hl] at h; cases h
        | some m =>
          rw [hl] at h; cases h
          obtain ⟨v, rfl, rw'⟩ := repL1 rv
          obtain ⟨l, rfl, hq⟩ := hInts_rep hi rw'
          obtain ⟨m1, m2⟩ := leastI_spec hl
          refine ⟨l, ns, rfl, sm.seq hq, by cases ns with | nil => cases m1 | cons => simp, fun m' h1 h2 => ?_⟩
          have : m' = m := Int.le_antisymm (h2 m m1) (m2 m' h1)
          rw [this]; exact q _ rfl
    · cases h) hg hm (by decide +kernel) ha (by decide) (by decide) he hpl
theorem SR.upd {B : Bx} {A H0 G0 env G σ H} {i : Nat} {c c' : Cell} {l : Addr} {u : HO} (S : SR B A H0 G0 env G σ H) (hi : env[i]? = some c) (ho : c.own = true) (hl : σ[i]? = some (some (.ref l))) (hc' : CellOk B G (upd H l u) c' (some (.ref l))) (ho' : c'.own = true) (hob : ∀ a b d, c = .ob a b d → ∃ a' b' d', c' = .ob a' b' d') : SR B A H0 G0 (env.set i c') G σ (upd H l u) := by
  have ilt : i < env.length := (List.getElem?_eq_some_iff.mp hi).1
  obtain ⟨l', u', e1, h1, g1⟩ := (S.cell i c hi).addr ho
  rw [join_of hl] at e1; cases e1
  refine ⟨by rw [List.length_set]; exact S.len, S.ext, fun b o e => ?_, S.new, fun a o hA e => ?_, fun j d ej => ?_, fun j d l' ej hd e1 => ?_, fun j k d d' l' ej ek hd hd' e1 e2 => ?_, fun a ha => ?_⟩
  · rw [upd_ne (ne_of_none e g1)]; exact S.same _ _ e
  · rcases S.frsh i c l hi ho hl with z | z
    · rw [upd_ne (ne_of_none e z)]; exact S.keep a o hA e
    · have hne : a ≠ l := fun w => hA (by rw [w]; exact z)
      rw [upd_ne hne]; exact S.keep a o hA e
  · by_cases hij : i = j
    · subst hij
      rw [List.getElem?_set_self ilt] at ej; cases ej
      rw [join_of hl]; exact hc'
    · rw [List.getElem?_set_ne hij] at ej
      refine (S.cell j d ej).step (Same.refl _) (fun l2 hd e1 => ?_) (fun l2 u2 hd e1 h2 => ?_)
      · obtain ⟨l3, u3, e3, _, g3⟩ := (S.cell j d ej).addr hd
        rw [e1] at e3; cases e3; exact g3
      · have hne : l2 ≠ l := fun z => by subst z; exact hij (S.dist i j _ _ _ hi ej ho hd hl (join_some e1))
        rw [upd_ne hne]; exact h2
  · by_cases hij : i = j
    · subst hij
      exact S.frsh i c l' hi ho e1
    · rw [List.getElem?_set_ne hij] at ej; exact S.frsh j d l' ej hd e1
  · by_cases hij : i = j
    · subst hij
      by_cases hik : i = k
      · exact hik
      · rw [List.getElem?_set_ne hik] at ek
        exact S.dist i k c d' l' hi ek ho hd' e1 e2
    · rw [List.getElem?_set_ne hij] at ej
      by_cases hik : i = k
      · subst hik; exact S.dist j i d c l' ej hi hd ho e1 e2
      · rw [List.getElem?_set_ne hik] at ek
        exact S.dist j k d d' l' ej ek hd hd' e1 e2
  · obtain ⟨z1, c1, ns, ds, ec⟩ := S.slf a ha
    refine ⟨z1, ?_⟩
    by_cases h0 : i = 0
    · subst h0
      rw [hi] at ec
      obtain ⟨a', b', d', e'⟩ := hob c1 ns ds (Option.some.inj ec)
      exact ⟨a', b', d', by rw [List.getElem?_set_self ilt, e']⟩
    · rw [List.getElem?_set_ne h0]; exact ⟨c1, ns, ds, ec⟩
/-- x.append(e) -/
noncomputable def gAppend (i : Nat) (g : M D) : M D := fun env => match env[i]? with
  | some (.ow _) => (g env).bind fun q => match q.2[i]? with
    | some (.ow ds) => if ds.length < sizeLine then .ok (.non, q.2.set i (.ow (ds ++ [q.1]))) else .stuck
    | _ => .stuck
  | _ => .stuck
theorem own_slot {B : Bx} {A H0 G0 env G σ H} {i : Nat} {ds : List D} (S : SR B A H0 G0 env G σ H) (h : env[i]? = some (.ow ds)) : ∃ l xs, σ[i]? = some (some (.ref l)) ∧ H l = some (.lst xs) ∧ G l = none ∧ RepL B G ds xs := by
  obtain ⟨l, xs, e, h1, h2, r⟩ := S.cell i _ h
  exact ⟨l, xs, join_some e, h1, h2, r⟩
theorem df_append {i : Nat} {ap : Pos} (h : PE X (.Name x p) (tVar i)) (hb : DF X EA b g) (hbase : attributeBase (.Name x p) "append" X.env (eval (.Name x p) X.env) = eval (.Name x p) X.env := by rfl)
    (hfew : ((backTo pos (starEach [b] X.env)).all (fun x => !x.1) && (backToKw pos (keywordEach [] X.env)).all (fun x => x.1.isSome) && decide ([b].length + ([] : List Keyword).length + (if ([] : List Keyword).isEmpty then 0 else 1) < 30)) = true := by rfl)
    (hline : (ap.endLine == pos.line) = true := by rfl) (hs : starEach [b] X.env = (false, eval b X.env) :: starEach [] X.env := by rfl) (hplain : (backTo pos (starEach [] X.env)).any (·.1) = false := by rfl) :
    DF X EA (.Call (.Attribute (.Name x p) "append" ap) [b] [] pos) (gAppend i g) := by
  refine pe_imp (pe_bm PySem.F.plainAttrs_list PySem.F.slot_list_append PySem.F.type_list_append mt_append h (da_cons hb da_nil hs) hbase hfew hline hs hplain) fun σ H Q ⟨A, H0, G0, env, G, S, h1⟩ => ?_
  unfold gAppend at h1
  split at h1
  · rename_i ds0 e0
    obtain ⟨l, xs0, el, h0, g0, r0⟩ := own_slot S e0
    refine ⟨_, el, .inl ⟨rfl, xs0, SqL.of h0⟩, A, H0, G0, env, G, S, ?_⟩
    unfold aCons aNil mPure
    cases hq : g env with
    | stuck => rw [hq] at h1; exact h1.elim
    | ex x => rw [hq] at h1; exact h1
    | ok q =>
      rw [hq] at h1
      refine fun vs G1 H1 S1 s1 rv => ?_
      simp only [Res.bind_ok] at h1
      split at h1
      · rename_i ds e1
        split at h1
        · rename_i hlen
          obtain ⟨l', xs, el', hx, gx, rx⟩ := own_slot S1 e1
          rw [el] at el'; cases el'
          obtain ⟨v, rfl, rd⟩ := repL1 rv
          refine ⟨l, xs, v, rfl, rfl, hx, by rw [rx.length]; exact hlen, ?_⟩
          refine h1 _ G1 _ (S1.upd e1 rfl el ⟨l, _, rfl, upd_same, gx, rx.append (RepL.one rd)⟩ rfl (by intro a b d z; cases z)) s1 rfl
        · exact h1.elim
      · exact h1.elim
  · exact h1.elim
end
end DL
namespace DL
open PySem L2
noncomputable def noEx {α : Type} : Res α → Res α
  | .ok a => .ok a
  | _ => .stuck
@[simp] theorem noEx_ok {α : Type} (a : α) : noEx (.ok a) = .ok a := rfl
@[simp] theorem noEx_stuck {α : Type} : noEx (.stuck : Res α) = .stuck := rfl
noncomputable def wipeD (env : DEnv) : List Nat → DEnv
  | [] => env
  | v :: vs => (wipeD env vs).set v .no
noncomputable def restD (env0 env : DEnv) : List Nat → DEnv
  | [] => env
  | v :: vs => match env0[v]? with
    | some c => (restD env0 env vs).set v c
    | none => restD env0 env vs
noncomputable def plainC : Option Cell → Bool
  | some c => !c.own
  | none => true
noncomputable def compL (g : D → SM) (t : M Bool) (f : M D) (own : List Nat) : List D → List D → M (List D)
  | [], acc, env => .ok (acc, env)
  | d :: ds, acc, env => (noEx (g d env)).bind fun o => match o with
    | .nx e1 => (noEx (t e1)).bind fun b => if b.1 = true then (noEx (f b.2)).bind fun q => if acc.length < sizeLine then compL g t f own ds (acc ++ [q.1]) (wipeD q.2 own) else .stuck
        else compL g t f own ds acc (wipeD b.2 own)
    | _ => .stuck
noncomputable def gComp (r : M (List D)) (g : D → SM) (t : M Bool) (f : M D) (own : List Nat) : M Cell := fun env => (r env).bind fun p =>
  if own.all (fun i => plainC p.2[i]?) = true then (compL g t f own p.1 [] (wipeD p.2 own)).map fun q => (.ow q.1, restD p.2 q.2 own) else .stuck
noncomputable def mYes : M Bool := fun env => .ok (true, env)
theorem wipeD_length (env : DEnv) : ∀ vs, (wipeD env vs).length = env.length
  | [] => rfl
  | v :: vs => by unfold wipeD; rw [List.length_set, wipeD_length env vs]
theorem wipeD_get {env : DEnv} {i : Nat} {c : Cell} : ∀ {vs : List Nat}, (wipeD env vs)[i]? = some c → c = .no ∨ (env[i]? = some c ∧ i ∉ vs)
  | [], h => .inr ⟨h, by simp⟩
  | v :: vs, h => by
    unfold wipeD at h
    by_cases hv : v = i
    · subst hv
      by_cases hl : v < (wipeD env vs).length
      · rw [List.getElem?_set_self hl] at h; exact .inl (Option.some.inj h).symm
      · rw [List.getElem?_eq_none (by simpa using hl)] at h; cases h
    · rw [List.getElem?_set_ne hv] at h
      rcases wipeD_get h with z | ⟨z, w⟩
      · exact .inl z
      · exact .inr ⟨z, by simp [Ne.symm hv, w]⟩
theorem wipe_get {σ : St} {i : Nat} : ∀ {vs : List Nat}, i ∉ vs → (wipe σ vs)[i]? = σ[i]?
  | [], _ => rfl
  | v :: vs, h => by
    unfold wipe
    rw [List.getElem?_set_ne (by intro z; exact h (by simp [z]))]
    exact wipe_get fun z => h (by simp [z])
theorem wipe_in {σ : St} {i : Nat} : ∀ {vs : List Nat}, i ∈ vs → (wipe σ vs)[i]? = if i < σ.length then some none else none
  | v :: vs, h => by
    unfold wipe
    by_cases hv : v = i
    · subst hv
      split
      · rename_i hl; rw [List.getElem?_set_self (by rw [wipe_length]; exact hl)]
      · rename_i hl; rw [List.getElem?_eq_none (by rw [List.length_set, wipe_length]; omega)]
    · rw [List.getElem?_set_ne hv]
      exact wipe_in (by simpa [Ne.symm hv] using h)
theorem wipe_off {σ σ' : St} {us vs : List Nat} (h : Off us σ σ') (hs : ∀ i ∈ us, i ∈ vs) : wipe σ' vs = wipe σ vs := by
  apply List.ext_getElem?
  intro i
  by_cases hi : i ∈ vs
  · rw [wipe_in hi, wipe_in hi, h.1]
  · rw [wipe_get hi, wipe_get hi]; exact h.2 i fun z => hi (hs i z)
theorem wipe_wipe {σ : St} {vs : List Nat} : wipe (wipe σ vs) vs = wipe σ vs := by
  apply List.ext_getElem?
  intro i
  by_cases hi : i ∈ vs
  · rw [wipe_in hi, wipe_in hi, wipe_length]
  · rw [wipe_get hi]
theorem restD_length (e0 env : DEnv) : ∀ vs, (restD e0 env vs).length = env.length
  | [] => rfl
  | v :: vs => by
    unfold restD
    split
    · rw [List.length_set, restD_length e0 env vs]
    · exact restD_length e0 env vs
theorem restD_get {e0 env : DEnv} (hl : env.length = e0.length) {i : Nat} {c : Cell} : ∀ {vs : List Nat}, (restD e0 env vs)[i]? = some c → (i ∈ vs ∧ e0[i]? = some c) ∨ (i ∉ vs ∧ env[i]? = some c)
  | [], h => .inr ⟨by simp, h⟩
  | v :: vs, h => by
    unfold restD at h
    split at h
    · rename_i c0 e
      by_cases hv : v = i
      · subst hv
        have hlt : v < (restD e0 env vs).length := by rw [restD_length, hl]; exact (List.getElem?_eq_some_iff.mp e).1
        rw [List.getElem?_set_self hlt] at h
        exact .inl ⟨by simp, by rw [e]; exact h⟩
      · rw [List.getElem?_set_ne hv] at h
        rcases restD_get hl h with ⟨z, w⟩ | ⟨z, w⟩
        · exact .inl ⟨by simp [z], w⟩
        · exact .inr ⟨by simp [z, Ne.symm hv], w⟩
    · rename_i e
      by_cases hv : v = i
      · subst hv
        have := (List.getElem?_eq_some_iff.mp h).1
        rw [restD_length, hl] at this
        rw [List.getElem?_eq_none_iff] at e
        omega
      · rcases restD_get hl h with ⟨z, w⟩ | ⟨z, w⟩
        · exact .inl ⟨by simp [z], w⟩
        · exact .inr ⟨by simp [z, Ne.symm hv], w⟩
theorem noEx_sat {α : Type} {r : Res α} {P : α → Prop} {E E' : XD → Prop} (h : (noEx r).sat P E) : r.sat P E' := by
  cases r with
  | ok a => exact h
  | ex x => exact h.elim
  | stuck => exact h
section
variable {B : Bx} {A : Option Addr} {H0 G0 : Hp} {env : DEnv} {G : Hp} {σ : St} {H : Hp}
/-- the block's own slots forgotten -/
theorem SR.wipe (S : SR B A H0 G0 env G σ H) {vs : List Nat} (h0 : A = none ∨ 0 ∉ vs) : SR B A H0 G0 (wipeD env vs) G (L2.wipe σ vs) H := by
  refine ⟨by rw [wipe_length, wipeD_length]; exact S.len, S.ext, S.same, S.new, S.keep, fun j d ej => ?_, fun j d l ej ho e1 => ?_, fun j k d d' l ej ek hd hd' e1 e2 => ?_, fun a ha => ?_⟩
  · rcases wipeD_get ej with z | ⟨z, w⟩
    · rw [z]; trivial
    · rw [wipe_get w]; exact S.cell j d z
  · rcases wipeD_get ej with z | ⟨z, w⟩
    · rw [z] at ho; cases ho
    · rw [wipe_get w] at e1; exact S.frsh j d l z ho e1
  · rcases wipeD_get ej with z | ⟨z, w⟩
    · rw [z] at hd; cases hd
    · rcases wipeD_get ek with z' | ⟨z', w'⟩
      · rw [z'] at hd'; cases hd'
      · rw [wipe_get w] at e1; rw [wipe_get w'] at e2; exact S.dist j k d d' l z z' hd hd' e1 e2
  · obtain ⟨z1, c, ns, ds, ec⟩ := S.slf a ha
    have h0' : 0 ∉ vs := h0.resolve_left fun z => by rw [z] at ha; cases ha
    refine ⟨by rw [wipe_get h0']; exact z1, c, ns, ds, ?_⟩
    have : ∀ ws : List Nat, 0 ∉ ws → (wipeD env ws)[0]? = env[0]? := fun ws => by
      induction ws with
      | nil => intro _; rfl
      | cons v ws ih => intro hw; unfold wipeD; rw [List.getElem?_set_ne (by intro z; exact hw (by simp [z]))]; exact ih fun z => hw (by simp [z])
    rw [this vs h0']; exact ec
/-- back behind a block -/
theorem SR.rest {e0 e1 : DEnv} {G' H' : Hp} (S : SR B A H0 G0 e0 G σ H) {vs : List Nat} (hp : vs.all (fun i => plainC e0[i]?) = true) (S' : SR B A H0 G0 e1 G' (L2.wipe σ vs) H') (s : Same G G') (hl : e1.length = e0.length) (h0 : A = none ∨ 0 ∉ vs) : SR B A H0 G0 (restD e0 e1 vs) G' σ H' := by
  have own_no : ∀ (i : Nat) c, i ∈ vs → e0[i]? = some c → c.own = false := fun i c hi e => by
    have := List.all_eq_true.mp hp i hi
    rw [e] at this
    simpa [plainC] using this
  refine ⟨by rw [restD_length, hl]; exact S.len, S'.ext, S'.same, S'.new, S'.keep, fun j d ej => ?_, fun j d l ej ho e1' => ?_, fun j k d d' l ej ek hd hd' z1 z2 => ?_, fun a ha => ?_⟩
  · rcases restD_get hl ej with ⟨z, w⟩ | ⟨z, w⟩
    · exact (S.cell j d w).step s (fun l ho _ => by rw [own_no j d z w] at ho; cases ho) (fun l u ho _ _ => by rw [own_no j d z w] at ho; cases ho)
    · have := S'.cell j d w; rw [wipe_get z] at this; exact this
  · rcases restD_get hl ej with ⟨z, w⟩ | ⟨z, w⟩
    · rw [own_no j d z w] at ho; cases ho
    · exact S'.frsh j d l w ho (by rw [wipe_get z]; exact e1')
  · rcases restD_get hl ej with ⟨z, w⟩ | ⟨z, w⟩
    · rw [own_no j d z w] at hd; cases hd
    · rcases restD_get hl ek with ⟨z', w'⟩ | ⟨z', w'⟩
      · rw [own_no k d' z' w'] at hd'; cases hd'
      · exact S'.dist j k d d' l w w' hd hd' (by rw [wipe_get z]; exact z1) (by rw [wipe_get z']; exact z2)
  · have h0' : 0 ∉ vs := h0.resolve_left fun z => by rw [z] at ha; cases ha
    obtain ⟨z1, c, ns, ds, ec⟩ := S'.slf a ha
    obtain ⟨y1, _⟩ := S.slf a ha
    refine ⟨y1, c, ns, ds, ?_⟩
    cases q : (restD e0 e1 vs)[0]? with
    | none =>
      rw [List.getElem?_eq_none_iff, restD_length] at q
      have := (List.getElem?_eq_some_iff.mp ec).1
      omega
    | some c' =>
      rcases restD_get hl q with ⟨z, w⟩ | ⟨z, w⟩
      · exact (h0' z).elim
      · rw [ec] at w; exact w.symm
/-- with a list that is being made beside -/
theorem SR.beside {D : Addr} {u : HO} (S : SR B A H0 G0 env G σ H) (hD : H D = some u) (h0 : H0 D = none) (hg : G D = none) (hA : A ≠ some D) (hd : ∀ (i : Nat) c, env[i]? = some c → c.own = true → σ[i]? ≠ some (some (.ref D))) : SR B A (L2.upd H0 D u) G0 env G σ H := by
  refine ⟨S.len, S.ext, S.same, fun a h1 h2 => ?_, fun a o ha e => ?_, S.cell, fun i c l ei ho el => ?_, S.dist, S.slf⟩
  · have hne : a ≠ D := fun z => by rw [z] at h1; exact h1 hg
    rw [upd_ne hne]; exact S.new a h1 h2
  · by_cases hne : a = D
    · rw [hne] at e ⊢; rw [upd_same] at e; rw [hD]; exact e
    · rw [upd_ne hne] at e; exact S.keep a o ha e
  · have hne : l ≠ D := fun z => hd i c ei ho (by rw [← z]; exact el)
    rw [upd_ne hne]; exact S.frsh i c l ei ho el
/-- .. and that has grown -/
theorem SR.grown {D : Addr} {u u' : HO} (S : SR B A (L2.upd H0 D u) G0 env G σ H) (h0 : H0 D = none) (g0 : G0 D = none) (hA : A ≠ some D) : SR B A H0 G0 env G σ (L2.upd H D u') ∧ H D = some u ∧ G D = none ∧ ∀ (i : Nat) c, env[i]? = some c → c.own = true → σ[i]? ≠ some (some (.ref D)) := by
  have hD : H D = some u := S.keep D u hA upd_same
  have hg : G D = none := by
    cases e : G D with
    | none => rfl
    | some z => have := S.new D (by rw [e]; intro z; cases z) g0; rw [upd_same] at this; cases this
  have hd : ∀ (i : Nat) c, env[i]? = some c → c.own = true → σ[i]? ≠ some (some (.ref D)) := fun i c ei ho el => by
    rcases S.frsh i c D ei ho el with z | z
    · rw [upd_same] at z; cases z
    · exact hA z
  refine ⟨⟨S.len, S.ext, fun b o e => ?_, fun a h1 h2 => ?_, fun a o ha e => ?_, fun j c ej => (S.cell j c ej).step (Same.refl _) (fun l ho e1 => ?_) (fun l w ho e1 h2 => ?_), fun i c l ei ho el => ?_, S.dist, S.slf⟩, hD, hg, hd⟩
  · rw [upd_ne (ne_of_none e hg)]; exact S.same _ _ e
  · have := S.new a h1 h2
    by_cases hne : a = D
    · rw [hne]; exact h0
    · rw [upd_ne hne] at this; exact this
  · have hne : a ≠ D := fun z => by rw [z, h0] at e; cases e
    rw [upd_ne hne]; exact S.keep a o ha (by rw [upd_ne hne]; exact e)
  · obtain ⟨l2, u2, e2, h2, g2⟩ := (S.cell j c ej).addr ho
    rw [e1] at e2; cases e2; exact g2
  · have hne : l ≠ D := fun z => hd j c ej ho (by rw [← z]; exact join_some e1)
    rw [upd_ne hne]; exact h2
  · rcases S.frsh i c l ei ho el with z | z
    · by_cases hne : l = D
      · rw [hne]; exact .inl h0
      · rw [upd_ne hne] at z; exact .inl z
    · exact .inr z
end
theorem upd_self {H : Hp} {a : Addr} {u : HO} (h : H a = some u) : L2.upd H a u = H := by
  funext b
  by_cases hb : b = a
  · rw [hb, upd_same, h]
  · rw [upd_ne hb]
section
variable {X : Cx} {EA EN : XK}
theorem dts_nil : PTs X [] (tT (bx X) EN mYes) := ⟨fun pins s σ H Q I h => by
  obtain ⟨A, H0, G0, env, G, S, h⟩ := h
  exact pts_nil.run pins s σ H Q I (h G H S (Same.refl _))⟩
theorem dts_one {c : Expr} {t : M Bool} (h : DT X EN c t) : PTs X [c] (tT (bx X) EN t) := pts_one h
theorem lc_sem {B : Bx} {σ : St} {H : Hp} {Q : VK} {r : M (List D)} {g : D → SM} {t : M Bool} {f : M D} {us vs : List Nat} (hus : ∀ i ∈ us, i ∈ vs) (h0 : 0 ∉ vs) {A H0 G0 env G} (S : SR B A H0 G0 env G σ H)
    (h : (gComp r g t f vs env).sat (fun r => ∀ v G' H', SR B A H0 G0 r.2 G' σ H' → Same G G' → Val B H0 r.2 G' σ H' r.1 v → Q v H') (XOk B A H0 G0 EA)) :
    tLc (tI B EA r) (tG B EN us g) (tT B EN t) (tF B EN f) vs σ H Q := by
  refine ⟨A, H0, G0, env, G, S, Res.sat_mono (Res.sat_bind h) (fun q hq J G1 H1 S1 s1 IK D hD => ?_) fun _ z => z⟩
  split at hq
  rotate_left
  · exact hq.elim
  rename_i hpl
  obtain ⟨SD, gD, h0D, nD⟩ := S1.laid (u := .lst []) hD
  have hA : A ≠ some D := fun z => by
    obtain ⟨z1, c, ns, ds, ec⟩ := S1.slf D z
    exact nD 0 _ ec rfl z1
  have g0D : G0 D = none := S1.ext.free gD
  have wset : ∀ {e : DEnv} {i : Nat} {c : Cell}, (∀ (j : Nat) d, e[j]? = some d → d.own = true → (L2.wipe σ vs)[j]? ≠ some (some (.ref D))) → (wipeD e vs)[i]? = some c → c.own = true → (L2.wipe σ vs)[i]? ≠ some (some (.ref D)) := fun {e i c} hn ei ho => by
    rcases wipeD_get ei with z | ⟨z, w⟩
    · rw [z] at ho; cases ho
    · exact hn i c z ho
  refine ⟨fun i m H => m = q.1.length - i ∧ i ≤ q.1.length ∧ ∃ acc accV e2 G2, H D = some (.lst accV) ∧ SR B A H0 G0 e2 G2 (L2.wipe σ vs) H ∧ Same G1 G2 ∧ G2 D = none ∧
    (∀ (j : Nat) c, e2[j]? = some c → c.own = true → (L2.wipe σ vs)[j]? ≠ some (some (.ref D))) ∧ RepL B G2 acc accV ∧
    (compL g t f vs (q.1.drop i) acc e2).sat (fun z => ∀ v G' H', SR B A H0 G0 (restD q.2 z.2 vs) G' σ H' → Same G G' → Val B H0 (restD q.2 z.2 vs) G' σ H' (.ow z.1) v → Q v H') (XOk B A H0 G0 EA),
    ⟨_, rfl, Nat.zero_le _, [], [], wipeD q.2 vs, G1, upd_same, SD.wipe (.inr h0), Same.refl _, gD, fun j c ej ho => ?_, RepL.nil, Res.sat_map hq⟩, ?_⟩
  · rcases wipeD_get ej with z | ⟨z, w⟩
    · rw [z] at ho; cases ho
    · rw [wipe_get w]; exact nD j c z ho
  rintro i m H ⟨rfl, hi, acc, accV, e2, G2, hH, S2, s2, g2, n2, r2, hf⟩
  obtain ⟨k1, k2, k3⟩ := IK i H (s2.trans S2.same)
  by_cases hlt : i < q.1.length
  · have ed : q.1.drop i = q.1[i] :: q.1.drop (i + 1) := List.drop_eq_getElem_cons hlt
    have eg : q.1[i]? = some q.1[i] := by simp [hlt]
    rw [ed] at hf
    refine .inr ⟨k1 hlt, fun H' => ∃ acc accV e2 G2, H' D = some (.lst accV) ∧ SR B A H0 G0 e2 G2 (L2.wipe σ vs) H' ∧ Same G1 G2 ∧ G2 D = none ∧
      (∀ (j : Nat) c, e2[j]? = some c → c.own = true → (L2.wipe σ vs)[j]? ≠ some (some (.ref D))) ∧ RepL B G2 acc accV ∧
      (compL g t f vs (q.1.drop (i + 1)) acc e2).sat (fun z => ∀ v G' H', SR B A H0 G0 (restD q.2 z.2 vs) G' σ H' → Same G G' → Val B H0 (restD q.2 z.2 vs) G' σ H' (.ow z.1) v → Q v H') (XOk B A H0 G0 EA),
      fun H' z => ⟨q.1.length - (i + 1), by omega, rfl, hlt, z⟩, fun x H' y => ?_⟩
    have fin : ∀ G3, H' D = some (.lst accV) → SR B A H0 G0 e2 G3 (L2.wipe σ vs) H' → Same G2 G3 → G3 D = none → Rep B G3 q.1[i] x → tG B EN us g x (L2.wipe σ vs) H' fun σ2 H2 => L2.wipe σ2 vs = L2.wipe σ vs ∧ tT B EN t σ2 H2 fun b H3 =>
        if b = true then tF B EN f σ2 H3 fun y H4 => ∃ acc, H4 D = some (.lst acc) ∧ acc.length < sizeLine ∧ (∃ acc' accV e2 G2, (L2.upd H4 D (.lst (acc ++ [y]))) D = some (.lst accV) ∧ SR B A H0 G0 e2 G2 (L2.wipe σ vs) (L2.upd H4 D (.lst (acc ++ [y]))) ∧ Same G1 G2 ∧ G2 D = none ∧
      (∀ (j : Nat) c, e2[j]? = some c → c.own = true → (L2.wipe σ vs)[j]? ≠ some (some (.ref D))) ∧ RepL B G2 acc' accV ∧
      (compL g t f vs (q.1.drop (i + 1)) acc' e2).sat (fun z => ∀ v G' H', SR B A H0 G0 (restD q.2 z.2 vs) G' σ H' → Same G G' → Val B H0 (restD q.2 z.2 vs) G' σ H' (.ow z.1) v → Q v H') (XOk B A H0 G0 EA))
        else ∃ acc accV e2 G2, H3 D = some (.lst accV) ∧ SR B A H0 G0 e2 G2 (L2.wipe σ vs) H3 ∧ Same G1 G2 ∧ G2 D = none ∧
      (∀ (j : Nat) c, e2[j]? = some c → c.own = true → (L2.wipe σ vs)[j]? ≠ some (some (.ref D))) ∧ RepL B G2 acc accV ∧
      (compL g t f vs (q.1.drop (i + 1)) acc e2).sat (fun z => ∀ v G' H', SR B A H0 G0 (restD q.2 z.2 vs) G' σ H' → Same G G' → Val B H0 (restD q.2 z.2 vs) G' σ H' (.ow z.1) v → Q v H') (XOk B A H0 G0 EA) := by
      intro G3 hH3 S3 s3 g3 r3
      have S3b := S3.beside hH3 h0D g3 hA n2
      unfold compL at hf
      refine ⟨A, _, G0, e2, G3, q.1[i], S3b, r3, noEx_sat (Res.sat_mono (Res.sat_bind hf) (fun o ho => ?_) fun _ z => z)⟩
      cases o with
      | rt c e1 => exact ho.elim
      | bk e1 => exact ho.elim
      | ct e1 => exact ho.elim
      | nx e1 =>
        refine ⟨e1, rfl, fun G4 σ4 H4 S4 s4 off => ?_⟩
        have hw4 : L2.wipe σ4 vs = L2.wipe σ vs := (wipe_off off hus).trans wipe_wipe
        refine ⟨hw4, A, _, G0, e1, G4, S4, noEx_sat (Res.sat_mono (Res.sat_bind ho) (fun b hb G5 H5 S5 s5 => ?_) fun _ z => z)⟩
        cases hbb : b.1 with
        | false =>
          rw [hbb, if_neg (by simp)] at hb
          rw [if_neg (by simp)]
          obtain ⟨S6, hD6, gD6, nD6⟩ := S5.grown (u' := .lst accV) h0D g0D hA
          rw [upd_self hD6] at S6
          have S7 := S6.wipe (vs := vs) (.inr h0)
          rw [hw4] at S7
          refine ⟨acc, accV, _, G5, hD6, S7, s2.trans (s3.trans (s4.trans s5)), gD6, fun j c ej ho => ?_, RepL.mono (s3.trans (s4.trans s5)) _ _ r2, hb⟩
          rcases wipeD_get ej with z | ⟨z, w⟩
          · rw [z] at ho; cases ho
          · rw [← hw4, wipe_get w]; exact nD6 j c z ho
        | true =>
          rw [hbb, if_pos rfl] at hb
          rw [if_pos rfl]
          refine ⟨A, _, G0, b.2, G5, S5, noEx_sat (Res.sat_mono (Res.sat_bind hb) (fun w hw y G6 H6 S6 s6 r6 => ?_) fun _ z => z)⟩
          split at hw
          rotate_left
          · exact hw.elim
          rename_i hlen
          obtain ⟨S7, hD7, gD7, nD7⟩ := S6.grown (u' := .lst (accV ++ [y])) h0D g0D hA
          have S8 := S7.wipe (vs := vs) (.inr h0)
          rw [hw4] at S8
          have ss := s3.trans (s4.trans (s5.trans s6))
          refine ⟨accV, hD7, by rw [r2.length]; exact hlen, acc ++ [w.1], accV ++ [y], _, G6, upd_same, S8, s2.trans ss, gD7, fun j c ej ho => ?_, (RepL.mono ss _ _ r2).append (RepL.one r6), hw⟩
          rcases wipeD_get ej with z | ⟨z, w'⟩
          · rw [z] at ho; cases ho
          · rw [← hw4, wipe_get w']; exact nD7 j c z ho
    rcases k3 x H' _ eg y with ⟨rfl, rx⟩ | ⟨T, xs, es, rfl, hT, rfl, ee, rx⟩
    · exact fin G2 hH S2 (Same.refl _) g2 (Rep.mono s2 _ _ rx)
    · have hne : D ≠ T := fun z => by rw [← z, hH] at hT; cases hT
      obtain ⟨S3, s3⟩ := S2.frozen (u := .tup xs) hT
      refine fin _ (by rw [upd_ne hne]; exact hH) S3 s3 (by rw [upd_ne hne]; exact g2) ?_
      rw [ee]
      exact ⟨T, xs, rfl, SqT.of upd_same, RepL.mono (s2.trans s3) _ _ rx⟩
  · refine .inl ⟨k2 (by omega), ?_⟩
    have ed : q.1.drop i = [] := List.drop_eq_nil_iff.mpr (by omega)
    rw [ed] at hf
    have hl : e2.length = q.2.length := by rw [← S2.len, ← S1.len, wipe_length]
    refine hf _ G2 H (S1.rest hpl S2 s2 hl (.inr h0)) (s1.trans s2) ⟨⟨D, accV, rfl, hH, g2, r2⟩, fun l _ e => ?_⟩
    cases e
    refine ⟨h0D, fun j c ej ho => ?_⟩
    rcases restD_get hl ej with ⟨z, w⟩ | ⟨z, w⟩
    · have := List.all_eq_true.mp hpl j z
      rw [w] at this
      simp [plainC, ho] at this
    · rw [← wipe_get z]; exact n2 j c w ho
theorem de_lc {elt tg iter : Expr} {ifs : List Expr} {scope : Scope} {own : List (Str × Nat)} {pos : Pos} {us : List Nat} {r : M (List D)} {g : D → SM} {t : M Bool} {f : M D} (hc : X.calm = true) (hN : X.N.Nodup) (hi : DI X EA tg iter r) (ok : BlkOk X.N X.env.scope scope own)
    (hg : ∀ (s : Shared) (H : Hp) (C : Addr) (cl : List (Str × Addr)) (fp : List Addr), DG (X.blk s H scope (compEnvC scope cl C X.env) fp) EN tg us g)
    (ht : ∀ (s : Shared) (H : Hp) (C : Addr) (cl : List (Str × Addr)) (fp : List Addr), PTs (X.blk s H scope (compEnvC scope cl C X.env) fp) ifs (tT (bx X) EN t))
    (he : ∀ (s : Shared) (H : Hp) (C : Addr) (cl : List (Str × Addr)) (fp : List Addr), DF (X.blk s H scope (compEnvC scope cl C X.env) fp) EN elt f)
    (hus : ∀ i ∈ us, i ∈ own.map (·.2) := by decide) (h0 : 0 ∉ own.map (·.2) := by decide) (hs : ∀ x, foldedSetIterable iter X.env x = pure x := by intro _; rfl) :
    DE X EA (.ListComp elt [⟨tg, iter, ifs, 0⟩] scope pos) (gComp r g t f (own.map (·.2))) :=
  pe_imp (pe_lc (g := tG (bx X) EN us g) (tt := tT (bx X) EN t) (te := tF (bx X) EN f) hc hN hi ok hg ht he hs) fun σ H Q ⟨A, H0, G0, env, G, S, h⟩ => lc_sem hus h0 S h
/-- name = [..], the name a local -/
theorem ds_setLc {i : Nat} {y : Str} {py : Pos} {elt tg iter : Expr} {ifs : List Expr} {scope : Scope} {own : List (Str × Nat)} {pos spos : Pos} {us : List Nat} {r : M (List D)} {g : D → SM} {t : M Bool} {f : M D} (hc : X.calm = true) (hN : X.N.Nodup) (hy : X.N[i]? = some y) (hyl : X.env.scope.names.lookup y = some .local)
    (hsw : swapsWith (.ListComp elt [⟨tg, iter, ifs, 0⟩] scope pos) (some (.Name y py)) spos.line X.env = pure true) (hi : DI X EA tg iter r) (ok : BlkOk X.N X.env.scope scope own)
    (hg : ∀ (s : Shared) (H : Hp) (C : Addr) (cl : List (Str × Addr)) (fp : List Addr), DG (X.blk s H scope (compEnvC scope cl C X.env) fp) EN tg us g)
    (ht : ∀ (s : Shared) (H : Hp) (C : Addr) (cl : List (Str × Addr)) (fp : List Addr), PTs (X.blk s H scope (compEnvC scope cl C X.env) fp) ifs (tT (bx X) EN t))
    (he : ∀ (s : Shared) (H : Hp) (C : Addr) (cl : List (Str × Addr)) (fp : List Addr), DF (X.blk s H scope (compEnvC scope cl C X.env) fp) EN elt f)
    (hus : ∀ i ∈ us, i ∈ own.map (·.2) := by decide) (h0 : 0 ∉ own.map (·.2) := by decide) (hs : ∀ x, foldedSetIterable iter X.env x = pure x := by intro _; rfl) :
    DS X EA (.Assign [.Name y py] (.ListComp elt [⟨tg, iter, ifs, 0⟩] scope pos) spos) (sSet i (gComp r g t f (own.map (·.2)))) := by
  refine ps_imp (ps_setLc (g := tG (bx X) EN us g) (tt := tT (bx X) EN t) (te := tF (bx X) EN f) hc hN hy hyl hsw hi ok hg ht he hs) fun Dd σ H ⟨A, H0, G0, env, G, S, h⟩ => ?_
  exact lc_sem hus h0 S (Res.sat_mono (Res.sat_bind h) (fun p hp v G' H' S' s' W => setC_ok S' W hp) fun _ z => z)
end
end DL
namespace DL
open PySem PySem.Spec PyProof.Rows L2
section
variable {X : Cx}
/-- a text times an int -/
noncomputable def repS (x : Str) (n : Nat) : Str := ⟨(List.replicate n x.cps.toList).flatten.toArray⟩
theorem foldl_app (cs : Array Nat) : ∀ (k : Nat) (a : Array Nat), (List.foldl (fun x1 x2 => x1 ++ x2) a (List.replicate k cs)) = a ++ (List.replicate k cs.toList).flatten.toArray
  | 0, a => by simp
  | k + 1, a => by
    rw [List.replicate_succ, List.foldl_cons, foldl_app cs k, List.replicate_succ, List.flatten_cons]
    apply Array.ext'
    simp
theorem repS_len (x : Str) (n : Nat) : (repS x n).length = x.length * n := by
  show ((List.replicate n x.cps.toList).flatten.toArray).size = x.cps.size * n
  rw [List.size_toArray, List.length_flatten]
  simp [List.map_replicate, List.sum_replicate_nat, Nat.mul_comm]
theorem op_mul_str : OpR X (binaryOp .Mult) (fun x y H Q => ∃ z n, x = .str z ∧ y = .int n ∧ -(2 ^ 63) ≤ n ∧ n < 2 ^ 63 ∧ z.length ≤ sizeLine ∧ z.length * n.toNat ≤ sizeLine ∧ Q (.str (repS z n.toNat)) H) := by
  intro pins s σ H x y v u Q I rx ry h
  obtain ⟨z, n, rfl, rfl, h1, h2, hz0, hz, q⟩ := h
  obtain ⟨t, rfl⟩ := rx
  obtain ⟨t', rfl⟩ := ry
  have hs : sizeLine = 16777216 := sizeLine_eq
  have fin : ∀ w' : Str, w' = repS z n.toNat → (Made.str w').post (EP X pins σ Q) s := fun w' e => by
    subst e
    exact ⟨by show (repS z n.toNat).length ≤ sizeLine; rw [repS_len]; exact hz, .str _, H, I.tok _, ⟨_, rfl⟩, q⟩
  refine PySem.P.mul_str ?_ (fun hn hc => ?_) (fun hn hc => ?_) ?_
  · rw [decide_eq_false (by omega), decide_eq_false (by omega)]; rfl
  · -- z.length * n ≤ 2^24
    have hn1 : 1 ≤ n := by omega
    have hle : (z.length : Int) * n ≤ 2 ^ 63 - 1 := by
      have e : ((z.length * n.toNat : Nat) : Int) = (z.length : Int) * n := by
        rw [Int.natCast_mul, Int.toNat_of_nonneg (by omega)]
      have : ((z.length * n.toNat : Nat) : Int) ≤ 16777216 := by rw [hs] at hz; exact Int.ofNat_le.mpr hz
      omega
    have : (z.length : Int) ≤ (2 ^ 63 - 1) / n := (Int.le_ediv_iff_mul_le (by omega)).mpr hle
    omega
  · show decide (z.length * n.toNat > sizeLine) = false
    exact decide_eq_false (by omega)
  · by_cases hn : n < 1
    · rw [if_pos hn]
      refine fin _ ?_
      have : n.toNat = 0 := by omega
      rw [this]; rfl
    · rw [if_neg hn]
      by_cases hc : (n == 1 || z.length == 0) = true
      · rw [if_pos hc]
        have e : repS z n.toNat = z := by
          rcases Bool.or_eq_true _ _ ▸ hc with c | c
          · have : n = 1 := by simpa using c
            subst this
            show (⟨(List.replicate 1 z.cps.toList).flatten.toArray⟩ : Str) = z
            simp
          · have hl : z.cps = #[] := Array.size_eq_zero_iff.mp (by have c' : z.length = 0 := by simpa using c
                                                                   exact c')
            have hz' : z = ⟨#[]⟩ := by cases z; simp at hl; rw [hl]
            rw [hz']
            show (⟨(List.replicate n.toNat []).flatten.toArray⟩ : Str) = ⟨#[]⟩
            simp
        rw [e] at q
        exact ⟨.str z, H, I, ⟨t, rfl⟩, q⟩
      · rw [if_neg hc]
        refine fin _ ?_
        rw [foldl_app]
        show (⟨#[] ++ _⟩ : Str) = _
        simp [repS]
/-- z[lo:hi:st], st from 1 on -/
noncomputable def cutStep (z : Str) (lo hi : Option Int) (st : Int) : Str := if (st == 1 && (Builtin.Str.strSliceIndices lo hi st z.length).length == z.length) = true then z else ⟨((Builtin.Str.strSliceIndices lo hi st z.length).filterMap (z.cps[·]?)).toArray⟩
noncomputable def tSl3 (te : TE) (tl th ts : TO) : TE := fun σ H Q => te σ H fun x H1 => tl σ H1 fun l H2 => th σ H2 fun u H3 => ts σ H3 fun st H4 => ∃ z k, x = .str z ∧ st = some k ∧ 0 < k ∧ (cutStep z l u k).length ≤ sizeLine ∧ Q (.str (cutStep z l u k)) H4
theorem pe_slice3 {e st : Expr} {lo hi : Option Expr} {te : TE} {tl th ts : TO} {pos p2 : Pos} (he : PE X e te) (hl : PO X lo tl) (hu : PO X hi th) (hs : PO X (some st) ts) : PE X (.Subscript e (.Slice lo hi (some st) p2) pos) (tSl3 te tl th ts) := by
  refine ⟨fun pins s σ H Q I h => ?_⟩
  refine Subscript_ (thn (he.run pins s σ H _ I h) fun v s1 ⟨x, H1, I1, r1, q1⟩ => ?_)
  refine wpAny_Slice (thn (hl.run pins s1 σ H1 _ I1 q1) fun vl s2 ⟨l, H2, I2, pl, q2⟩ => thn (hu.run pins s2 σ H2 _ I2 q2) fun vu s3 ⟨u, H3, I3, pu, q3⟩ => thn (hs.run pins s3 σ H3 _ I3 q3) fun vs s4 ⟨sv, H4, I4, ps, q4⟩ => ?_)
  obtain ⟨z, k, rfl, rfl, hk, hz, q⟩ := q4
  obtain ⟨t, rfl⟩ := r1
  obtain ⟨l', rfl, rfl⟩ := IsPart.raw pl
  obtain ⟨u', rfl, rfl⟩ := IsPart.raw pu
  cases ps with
  | int k tk =>
    have I5 : Inv X pins σ H4 { s4 with heap := s4.heap.push { cls := .type "slice", data := .fields #[partValue l', partValue u', .int k tk] } } := I4.kept (t' := s4.toks) fun b ob q => Heap.get?_push_of_some _ q
    refine tail_any (T := "str") (id := "str.__getitem__") (ops := [.ref s4.heap.objs.size, .str z t]) (typeIs_str _ _ _) PySem.F.slot_str_getitem.lookup ?_ (by with_unfolding_all rfl)
    refine wpAny_getItem_str_slice (l := l') (u := u') (st := some (k, tk)) (Heap.IsSliceOf.new ..) ?_ ?_
    · show (k == 0) = false
      exact beq_eq_false_iff_ne.mpr (by omega)
    · show Made.post (if (k == 1 && (Builtin.Str.strSliceIndices (l'.map (·.1)) (u'.map (·.1)) k z.length).length == z.length) = true then Made.val (.str z t)
        else Made.str ⟨((Builtin.Str.strSliceIndices (l'.map (·.1)) (u'.map (·.1)) k z.length).filterMap (z.cps[·]?)).toArray⟩) (EP X pins σ Q) _
      unfold cutStep at q hz
      by_cases c : (k == 1 && (Builtin.Str.strSliceIndices (l'.map (·.1)) (u'.map (·.1)) k z.length).length == z.length) = true
      · rw [if_pos c] at q ⊢
        exact ⟨.str z, H4, I5, ⟨t, rfl⟩, q⟩
      · rw [if_neg c] at q hz ⊢
        exact ⟨hz, .str _, H4, I5.tok _, ⟨_, rfl⟩, q⟩
end
section
variable {X : Cx} {EA : XK} {a b c e o : Expr} {es : List Expr} {pos p p2 ap : Pos} {f g : M D} {r : M (List D)} {x : Str}
noncomputable def hStrMul : D → D → Option D
  | .str z, .int n => if -(2 ^ 63) ≤ n ∧ n < 2 ^ 63 ∧ z.length ≤ sizeLine ∧ z.length * n.toNat ≤ sizeLine then some (.str (repS z n.toNat)) else none
  | .int i, .int j => if (-(2 ^ 64) < i ∧ i < 2 ^ 64) ∨ (-(2 ^ 64) < j ∧ j < 2 ^ 64) then some (.int (i * j)) else none
  | _, _ => none
theorem df_strMul (ha : DF X EA a f) (hb : DF X EA b g) : DF X EA (.BinOp a .Mult b pos) (mOpt2 hStrMul f g) :=
  df_op (op_mul_str.or op_mul) hStrMul (fun G H x y a b d Q r1 r2 h q => by
    cases a <;> cases b <;> simp only [hStrMul] at h <;> try (cases h; done)
    · split at h
      · rename_i hl; cases r1; cases r2; cases h; exact .inr ⟨_, _, rfl, rfl, hl, q _ rfl⟩
      · cases h
    · split at h
      · rename_i hl; cases r1; cases r2; cases h; exact .inl ⟨_, _, rfl, rfl, hl.1, hl.2.1, hl.2.2.1, hl.2.2.2, q _ rfl⟩
      · cases h) ha hb
noncomputable def gSl3 (f : M D) (ml mh ms : M (Option Int)) : M D := fun env => (f env).bind fun p => (ml p.2).bind fun q => (mh q.2).bind fun r => (ms r.2).bind fun w => match p.1, w.1 with
  | .str z, some k => if 0 < k ∧ (cutStep z q.1 r.1 k).length ≤ sizeLine then .ok (.str (cutStep z q.1 r.1 k), w.2) else .stuck
  | _, _ => .stuck
theorem df_slS3 {st : Expr} {lo hi : Option Expr} {ml mh ms : M (Option Int)} (ha : DF X EA a f) (hl : DP X EA lo ml) (hh : DP X EA hi mh) (hs : DP X EA (some st) ms) : DF X EA (.Subscript a (.Slice lo hi (some st) p2) pos) (gSl3 f ml mh ms) := by
  refine pe_imp (pe_slice3 ha hl hh hs) fun σ H Q ⟨A, H0, G0, env, G, S, h1⟩ => ?_
  refine seq1 (β := D × DEnv) (k := fun d e2 => (ml e2).bind fun q => (mh q.2).bind fun r => (ms r.2).bind fun w => match d, w.1 with | .str z, some k => if 0 < k ∧ (cutStep z q.1 r.1 k).length ≤ sizeLine then .ok (.str (cutStep z q.1 r.1 k), w.2) else .stuck | _, _ => .stuck) S h1 fun x G1 H1 d e1 S1 s1 r1 h2 => ?_
  refine ⟨A, H0, G0, e1, G1, S1, Res.sat_mono (Res.sat_bind h2) (fun q hq G2 H2 S2 s2 => ?_) fun _ z => z⟩
  refine ⟨A, H0, G0, q.2, G2, S2, Res.sat_mono (Res.sat_bind hq) (fun w hw G3 H3 S3 s3 => ?_) fun _ z => z⟩
  refine ⟨A, H0, G0, w.2, G3, S3, Res.sat_mono (Res.sat_bind hw) (fun u hu G4 H4 S4 s4 => ?_) fun _ z => z⟩
  cases d with
  | str z =>
    cases ek : u.1 with
    | none => rw [ek] at hu; exact hu.elim
    | some k =>
      rw [ek] at hu
      simp only at hu
      split at hu
      · rename_i hz
        cases r1
        exact ⟨_, k, rfl, rfl, hz.1, hz.2, hu _ G4 H4 S4 (s1.trans (s2.trans (s3.trans s4))) rfl⟩
      · exact hu.elim
  | _ => exact hu.elim
noncomputable def hCat : D → D → Option (List D)
  | .lst xs, .lst ys => if xs.length + ys.length ≤ sizeLine then some (xs ++ ys) else none
  | _, _ => none
theorem de_cat (ha : DF X EA a f) (hb : DF X EA b g) : DE X EA (.BinOp a .Add b pos) (mMap Cell.ow (mOpt2 hCat f g)) := by
  refine pe_imp (pe_op op_cat ha hb) fun σ H Q ⟨A, H0, G0, env, G, S, h1⟩ => ?_
  refine seq2 (k := fun a b e2 => (optR (hCat a b)).map fun d => (d, e2)) S (Res.sat_map h1) fun x y G2 H2 a b e2 S2 s2 r1 r2 h2 => ?_
  obtain ⟨d, ed, h3⟩ := optR_sat (Res.sat_map h2)
  cases a <;> cases b <;> simp only [hCat] at ed <;> try (cases ed; done)
  split at ed
  · rename_i hl; cases ed
    obtain ⟨l1, xs, rfl, q1, w1⟩ := r1
    obtain ⟨l2, ys, rfl, q2, w2⟩ := r2
    exact ⟨l1, l2, xs, ys, rfl, rfl, S2.same _ _ q1, S2.same _ _ q2, by rw [w1.length, w2.length]; exact hl, new_list S2 (w1.append w2) s2 h3⟩
  · cases ed
noncomputable def isStrD : D → Bool
  | .str _ => true
  | _ => false
/-- o.m(e, ..), o a text; a frozen value -/
noncomputable def gBM (ty : D → Bool) (h : D → List D → Option D) (f : M D) (r : M (List D)) : M D := fun env => (f env).bind fun p => if ty p.1 = true then (r p.2).bind fun q => (optR (h p.1 q.1)).map fun d => (d, q.2) else .stuck
noncomputable def gBMn (ty : D → Bool) (h : D → List D → Option (List D)) (f : M D) (r : M (List D)) : M Cell := fun env => (f env).bind fun p => if ty p.1 = true then (r p.2).bind fun q => (optR (h p.1 q.1)).map fun d => (.ow d, q.2) else .stuck
variable {T id : String} {name : Str} {rr : V → List V → Hp → VK → Prop} {cpos apos : Pos}
theorem df_bm {ty : D → Bool} (pa : PlainAttrs T) (slot : Slot T name id) (hty : typeOf (.builtin id) = pure (.type "method_descriptor")) (hm : MtR X id rr) (h : D → List D → Option D)
    (hT : ∀ G H d x, Same G H → Rep (bx X) G d x → ty d = true → tyV X.K T x H)
    (hr : ∀ G H d x ds vs y (Q : VK), Same G H → Rep (bx X) G d x → RepL (bx X) G ds vs → h d ds = some y → (∀ v, Rep (bx X) G y v → Q v H) → rr x vs H Q)
    (ho : DF X EA o f) (ha : DA X EA (e :: es) r) (hbase : attributeBase o name X.env (eval o X.env) = eval o X.env := by rfl)
    (hfew : ((backTo cpos (starEach (e :: es) X.env)).all (fun x => !x.1) && (backToKw cpos (keywordEach [] X.env)).all (fun x => x.1.isSome) && decide ((e :: es).length + ([] : List Keyword).length + (if ([] : List Keyword).isEmpty then 0 else 1) < 30)) = true := by rfl)
    (hline : (apos.endLine == cpos.line) = true := by rfl) (hs : starEach (e :: es) X.env = (false, eval e X.env) :: starEach es X.env := by rfl) (hplain : (backTo cpos (starEach es X.env)).any (·.1) = false := by rfl) :
    DF X EA (.Call (.Attribute o name apos) (e :: es) [] cpos) (gBM ty h f r) := by
  refine pe_imp (pe_bm pa slot hty hm ho ha hbase hfew hline hs hplain) fun σ H Q ⟨A, H0, G0, env, G, S, h1⟩ => ?_
  refine seq1 (β := D × DEnv) (k := fun d e2 => if ty d = true then (r e2).bind fun q => (optR (h d q.1)).map fun d => (d, q.2) else .stuck) S h1 fun x G1 H1 d e1 S1 s1 r1 h2 => ?_
  split at h2
  · rename_i ht
    refine ⟨hT G1 H1 d x S1.same r1 ht, A, H0, G0, e1, G1, S1, Res.sat_mono (Res.sat_bind h2) (fun q hq vs G2 H2 S2 s2 rv => ?_) fun _ z => z⟩
    obtain ⟨y, ey, h3⟩ := optR_sat (Res.sat_map hq)
    exact hr G2 H2 d x q.1 vs y Q S2.same (Rep.mono s2 _ _ r1) rv ey fun v rv' => h3 v G2 H2 S2 (s1.trans s2) rv'
  · exact h2.elim
theorem df_bm0 {ty : D → Bool} (pa : PlainAttrs T) (slot : Slot T name id) (hty : typeOf (.builtin id) = pure (.type "method_descriptor")) (hm : MtR X id rr) (h : D → List D → Option D)
    (hT : ∀ G H d x, Same G H → Rep (bx X) G d x → ty d = true → tyV X.K T x H)
    (hr : ∀ G H d x ds vs y (Q : VK), Same G H → Rep (bx X) G d x → RepL (bx X) G ds vs → h d ds = some y → (∀ v, Rep (bx X) G y v → Q v H) → rr x vs H Q)
    (ho : DF X EA o f) (hbase : attributeBase o name X.env (eval o X.env) = eval o X.env := by rfl) (hline : (apos.endLine == cpos.line) = true := by rfl) :
    DF X EA (.Call (.Attribute o name apos) [] [] cpos) (gBM ty h f aNil) := by
  refine pe_imp (pe_bm0 pa slot hty hm ho hbase hline) fun σ H Q ⟨A, H0, G0, env, G, S, h1⟩ => ?_
  refine seq1 (β := D × DEnv) (k := fun d e2 => if ty d = true then (aNil e2).bind fun q => (optR (h d q.1)).map fun d => (d, q.2) else .stuck) S h1 fun x G1 H1 d e1 S1 s1 r1 h2 => ?_
  split at h2
  · rename_i ht
    obtain ⟨y, ey, h3⟩ := optR_sat (Res.sat_map (show ((optR (h d [])).map fun d => (d, e1)).sat _ _ from h2))
    exact ⟨hT G1 H1 d x S1.same r1 ht, hr G1 H1 d x [] [] y Q S1.same r1 RepL.nil ey fun v rv' => h3 v G1 H1 S1 s1 rv'⟩
  · exact h2.elim
theorem de_bm {ty : D → Bool} (pa : PlainAttrs T) (slot : Slot T name id) (hty : typeOf (.builtin id) = pure (.type "method_descriptor")) (hm : MtR X id rr) (h : D → List D → Option (List D))
    (hT : ∀ G H d x, Same G H → Rep (bx X) G d x → ty d = true → tyV X.K T x H)
    (hr : ∀ G H d x ds vs es (Q : VK), Same G H → Rep (bx X) G d x → RepL (bx X) G ds vs → h d ds = some es → (∀ xs, RepL (bx X) G es xs → ∀ p, H p = none → Q (.ref p) (upd H p (.lst xs))) → rr x vs H Q)
    (ho : DF X EA o f) (ha : DA X EA (e :: es) r) (hbase : attributeBase o name X.env (eval o X.env) = eval o X.env := by rfl)
    (hfew : ((backTo cpos (starEach (e :: es) X.env)).all (fun x => !x.1) && (backToKw cpos (keywordEach [] X.env)).all (fun x => x.1.isSome) && decide ((e :: es).length + ([] : List Keyword).length + (if ([] : List Keyword).isEmpty then 0 else 1) < 30)) = true := by rfl)
    (hline : (apos.endLine == cpos.line) = true := by rfl) (hs : starEach (e :: es) X.env = (false, eval e X.env) :: starEach es X.env := by rfl) (hplain : (backTo cpos (starEach es X.env)).any (·.1) = false := by rfl) :
    DE X EA (.Call (.Attribute o name apos) (e :: es) [] cpos) (gBMn ty h f r) := by
  refine pe_imp (pe_bm pa slot hty hm ho ha hbase hfew hline hs hplain) fun σ H Q ⟨A, H0, G0, env, G, S, h1⟩ => ?_
  refine seq1 (β := Cell × DEnv) (k := fun d e2 => if ty d = true then (r e2).bind fun q => (optR (h d q.1)).map fun d => (Cell.ow d, q.2) else .stuck) S h1 fun x G1 H1 d e1 S1 s1 r1 h2 => ?_
  split at h2
  · rename_i ht
    refine ⟨hT G1 H1 d x S1.same r1 ht, A, H0, G0, e1, G1, S1, Res.sat_mono (Res.sat_bind h2) (fun q hq vs G2 H2 S2 s2 rv => ?_) fun _ z => z⟩
    obtain ⟨y, ey, h3⟩ := optR_sat (Res.sat_map hq)
    exact hr G2 H2 d x q.1 vs y Q S2.same (Rep.mono s2 _ _ r1) rv ey fun xs rx => new_list S2 rx (s1.trans s2) h3
  · exact h2.elim
theorem strT {G H : Hp} {d : D} {x : V} (_ : Same G H) (r : Rep (bx X) G d x) (h : isStrD d = true) : tyV X.K "str" x H := by
  cases d <;> simp only [isStrD] at h <;> try (cases h; done)
  cases r; rfl
/-- texts of a list -/
noncomputable def strsOf : List D → Option (List Str)
  | [] => some []
  | .str i :: r => (strsOf r).map (i :: ·)
  | _ :: _ => none
theorem strsOf_rep {B : Bx} {G : Hp} : ∀ {ds : List D} {ns : List Str} {xs : List V}, strsOf ds = some ns → RepL B G ds xs → xs = ns.map V.str
  | [], ns, xs, h, r => by cases h; exact r
  | d :: ds, ns, xs, h, ⟨x, xr, e, hd, ht⟩ => by
    cases d <;> simp only [strsOf] at h <;> try (cases h; done)
    rename_i i
    cases q : strsOf ds with
    | none => rw [q] at h; cases h
    | some ms =>
      rw [q] at h; cases h
      have hx : x = V.str i := hd
      rw [e, hx, strsOf_rep q ht]; rfl
theorem strsOf_map : ∀ ns : List Str, strsOf (ns.map D.str) = some ns
  | [] => rfl
  | n :: ns => by simp [strsOf, strsOf_map ns]
noncomputable def hJoin : D → List D → Option D
  | .str a, [.lst ds] => (strsOf ds).bind fun ys => if (ys.map (·.length)).sum + ys.length * a.length ≤ 16777216 then some (.str (Txt.join a ys)) else none
  | _, _ => none
theorem df_join (ho : DF X EA o f) (ha : DA X EA [e] r) (hbase : attributeBase o "join" X.env (eval o X.env) = eval o X.env := by rfl)
    (hfew : ((backTo cpos (starEach [e] X.env)).all (fun x => !x.1) && (backToKw cpos (keywordEach [] X.env)).all (fun x => x.1.isSome) && decide ([e].length + ([] : List Keyword).length + (if ([] : List Keyword).isEmpty then 0 else 1) < 30)) = true := by rfl)
    (hline : (apos.endLine == cpos.line) = true := by rfl) (hs : starEach [e] X.env = (false, eval e X.env) :: starEach [] X.env := by rfl) (hplain : (backTo cpos (starEach [] X.env)).any (·.1) = false := by rfl) :
    DF X EA (.Call (.Attribute o "join" apos) [e] [] cpos) (gBM isStrD hJoin f r) :=
  df_bm PySem.F.plainAttrs_str PySem.F.slot_str_join PySem.F.type_str_join mt_join hJoin (fun G H d x sm r h => strT sm r h) (fun G H d x ds vs y Q sm r rv h q => by
    unfold hJoin at h
    split at h
    · rename_i a es
      cases hs : strsOf es with
      | none => rw [hs] at h; cases h
      | some ys =>
        rw [hs] at h
        simp only [Option.bind_some] at h
        split at h
        · rename_i hz; cases h
          cases r
          obtain ⟨v, rfl, rw'⟩ := repL1 rv
          obtain ⟨l, xs, rfl, hl, rx⟩ := rw'
          rw [strsOf_rep hs rx] at hl
          exact ⟨_, l, ys, rfl, rfl, .inl (SqL.of (sm _ _ hl)), hz, q _ rfl⟩
        · cases h
    · cases h) ho ha hbase hfew hline hs hplain
noncomputable def hSplit : D → List D → Option (List D)
  | .str a, [.str b] => if (b.length == 0) = false ∧ a.length + 2 ≤ sizeLine then some ((Txt.split a b).map D.str) else none
  | _, _ => none
theorem de_split (ho : DF X EA o f) (ha : DA X EA [e] r) (hbase : attributeBase o "split" X.env (eval o X.env) = eval o X.env := by rfl)
    (hfew : ((backTo cpos (starEach [e] X.env)).all (fun x => !x.1) && (backToKw cpos (keywordEach [] X.env)).all (fun x => x.1.isSome) && decide ([e].length + ([] : List Keyword).length + (if ([] : List Keyword).isEmpty then 0 else 1) < 30)) = true := by rfl)
    (hline : (apos.endLine == cpos.line) = true := by rfl) (hs : starEach [e] X.env = (false, eval e X.env) :: starEach [] X.env := by rfl) (hplain : (backTo cpos (starEach [] X.env)).any (·.1) = false := by rfl) :
    DE X EA (.Call (.Attribute o "split" apos) [e] [] cpos) (gBMn isStrD hSplit f r) :=
  de_bm PySem.F.plainAttrs_str PySem.F.slot_str_split PySem.F.type_str_split mt_split hSplit (fun G H d x sm r h => strT sm r h) (fun G H d x ds vs y Q sm r rv h q => by
    unfold hSplit at h
    split at h
    · rename_i a b
      split at h
      · rename_i hz; cases h
        cases r
        obtain ⟨v, rfl, rw'⟩ := repL1 rv
        cases rw'
        exact ⟨_, _, rfl, rfl, hz.1, hz.2, fun p hp => q _ (RepL.of_strs _) p hp⟩
      · cases h
    · cases h) ho ha hbase hfew hline hs hplain
noncomputable def hUpper : D → List D → Option D
  | .str a, [] => if a.length ≤ 5592405 then some (.str (Txt.upper a)) else none
  | _, _ => none
theorem df_upper (ho : DF X EA o f) (hbase : attributeBase o "upper" X.env (eval o X.env) = eval o X.env := by rfl) (hline : (apos.endLine == cpos.line) = true := by rfl) :
    DF X EA (.Call (.Attribute o "upper" apos) [] [] cpos) (gBM isStrD hUpper f aNil) :=
  df_bm0 PySem.F.plainAttrs_str PySem.F.slot_str_upper PySem.F.type_str_upper mt_upper hUpper (fun G H d x sm r h => strT sm r h) (fun G H d x ds vs y Q sm r rv h q => by
    unfold hUpper at h
    split at h
    · split at h
      · rename_i hz; cases h
        cases r
        cases rv
        exact ⟨_, rfl, rfl, hz, q _ rfl⟩
      · cases h
    · cases h) ho hbase hline
/-- flat data as values -/
noncomputable def flatD : D → Option V
  | .non => some .non
  | .bl b => some (.bl b)
  | .int i => some (.int i)
  | .str x => some (.str x)
  | _ => none
theorem flatD_rep {B : Bx} {G : Hp} {d : D} {v w : V} (r : Rep B G d v) (h : flatD d = some w) : v = w ∧ flatV w = true := by
  cases d <;> simp only [flatD] at h <;> try (cases h; done)
  all_goals (cases h; exact ⟨r, rfl⟩)
noncomputable def flatDs : List D → Option (List V)
  | [] => some []
  | d :: ds => match flatD d, flatDs ds with
    | some v, some vs => some (v :: vs)
    | _, _ => none
theorem flatDs_rep {B : Bx} {G : Hp} : ∀ {ds : List D} {xs vs : List V}, RepL B G ds xs → flatDs ds = some vs → xs = vs ∧ vs.all flatV = true
  | [], xs, vs, r, h => by cases h; exact ⟨r, rfl⟩
  | d :: ds, xs, vs, ⟨x, xr, e, hd, ht⟩, h => by
    unfold flatDs at h
    split at h
    · rename_i v ws e1 e2
      cases h
      obtain ⟨h1, h2⟩ := flatD_rep hd e1
      obtain ⟨h3, h4⟩ := flatDs_rep ht e2
      exact ⟨by rw [e, h1, h3], by rw [List.all_cons, h2, h4]; rfl⟩
    · cases h
noncomputable def hInQ : D → D → Option Bool
  | d, .lst ds => match flatD d, flatDs ds with
    | some v, some vs => some (inV v vs)
    | _, _ => none
  | d, .tup ds => match flatD d, flatDs ds with
    | some v, some vs => some (inV v vs)
    | _, _ => none
  | .str x, .str z => match x.cps.toList with
    | [c] => some (decide (c ∈ z.cps.toList))
    | _ => none
  | _, _ => none
noncomputable def hNotInQ (a b : D) : Option Bool := (hInQ a b).map (!·)
theorem inQ_sem {B : Bx} {G H : Hp} {a b : D} {x y : V} {k : Bool} (sm : Same G H) (r1 : Rep B G a x) (r2 : Rep B G b y) (h : hInQ a b = some k) :
    (∃ p xs, y = .ref p ∧ (SqL B.K H p xs ∨ SqT B.K H p xs) ∧ flatV x = true ∧ xs.all flatV = true ∧ k = inV x xs) ∨ ∃ (c : Nat) (z : Str), x = .str ⟨#[c]⟩ ∧ y = .str z ∧ k = decide (c ∈ z.cps.toList) := by
  unfold hInQ at h
  split at h
  · split at h
    · rename_i v vs e1 e2; cases h
      obtain ⟨l, xs, rfl, hl, rx⟩ := r2
      obtain ⟨h1, h2⟩ := flatD_rep r1 e1
      obtain ⟨h3, h4⟩ := flatDs_rep rx e2
      subst h1; subst h3
      exact .inl ⟨l, _, rfl, .inl (SqL.of (sm _ _ hl)), h2, h4, rfl⟩
    · cases h
  · split at h
    · rename_i v vs e1 e2; cases h
      obtain ⟨l, xs, rfl, hl, rx⟩ := r2
      obtain ⟨h1, h2⟩ := flatD_rep r1 e1
      obtain ⟨h3, h4⟩ := flatDs_rep rx e2
      subst h1; subst h3
      exact .inl ⟨l, _, rfl, .inr (sm.seqT hl), h2, h4, rfl⟩
    · cases h
  · split at h
    · rename_i x' z' _ c ec
      cases h; cases r1; cases r2
      refine .inr ⟨c, _, ?_, rfl, rfl⟩
      have : x' = ⟨#[c]⟩ := by
        cases x'
        simp at ec
        have := congrArg List.toArray ec
        simp at this
        rw [this]
      rw [this]
    · cases h
  · cases h
theorem cd_inQ : CmpD X .In hInQ := ⟨_, op_in_seq.or op_in_sign, fun G H x y a b k Q sm r1 r2 h q => by
  rcases inQ_sem sm r1 r2 h with ⟨p, xs, e, h1, h2, h3, h4⟩ | ⟨c, z, e1, e2, h4⟩
  · subst h4; exact .inl ⟨p, xs, e, h1, h2, h3, q⟩
  · subst h4; exact .inr ⟨c, z, e1, e2, q⟩⟩
theorem cd_notInQ : CmpD X .NotIn hNotInQ := ⟨_, op_notIn_seq.or op_notIn_sign, fun G H x y a b k Q sm r1 r2 h q => by
  unfold hNotInQ at h
  cases hq : hInQ a b with
  | none => rw [hq] at h; cases h
  | some k' =>
    rw [hq] at h; cases h
    rcases inQ_sem sm r1 r2 hq with ⟨p, xs, e, h1, h2, h3, h4⟩ | ⟨c, z, e1, e2, h4⟩
    · subst h4; exact .inl ⟨p, xs, e, h1, h2, h3, q⟩
    · subst h4; exact .inr ⟨c, z, e1, e2, q⟩⟩
noncomputable def hStrI : List D → Option D
  | [.int i] => if i.natAbs.log2 < 1920 then some (.str (toString i)) else none
  | [.str z] => none
  | _ => none
theorem df_strI (hg : Gl X "str") (hm : X.mg "str" = none) (ha : DA X EA [e] r) (he : starEach [e] X.env = (false, eval e X.env) :: starEach [] X.env := by rfl) (hpl : (backTo pos (starEach [] X.env)).any (·.1) = false := by rfl) : DF X EA (.Call (.Name "str" p) [e] [] pos) (mOpt hStrI r) :=
  df_callT call_str_int hStrI (fun G H vs ds d Q sm rv h q => by
    unfold hStrI at h
    split at h
    · split at h
      · rename_i hz; cases h
        obtain ⟨v, rfl, rw'⟩ := repL1 rv
        cases rw'
        exact ⟨_, rfl, hz, q _ rfl⟩
      · cases h
    · cases h
    · cases h) hg hm (by decide +kernel) ha (by decide) (by decide) he hpl
noncomputable def hIntS : List D → Option D
  | [.str z] => if z.length ≤ 640 then (PySem.intText? z).map D.int else none
  | _ => none
theorem df_intS (hg : Gl X "int") (hm : X.mg "int" = none) (ha : DA X EA [e] r) (he : starEach [e] X.env = (false, eval e X.env) :: starEach [] X.env := by rfl) (hpl : (backTo pos (starEach [] X.env)).any (·.1) = false := by rfl) : DF X EA (.Call (.Name "int" p) [e] [] pos) (mOpt hIntS r) :=
  df_callT call_int_str hIntS (fun G H vs ds d Q sm rv h q => by
    unfold hIntS at h
    split at h
    · split at h
      · rename_i z hz
        cases hi : PySem.intText? z with
        | none => rw [hi] at h; cases h
        | some n =>
          rw [hi] at h; cases h
          obtain ⟨v, rfl, rw'⟩ := repL1 rv
          cases rw'
          exact ⟨_, n, rfl, hi, hz, q _ rfl⟩
      · cases h
    · cases h) hg hm (by decide +kernel) ha (by decide) (by decide) he hpl
noncomputable def hAbs : List D → Option D
  | [.int i] => some (.int (if i < 0 then -i else i))
  | _ => none
theorem df_abs (hg : Gl X "abs") (hm : X.mg "abs" = none) (ha : DA X EA [e] r) (he : starEach [e] X.env = (false, eval e X.env) :: starEach [] X.env := by rfl) (hpl : (backTo pos (starEach [] X.env)).any (·.1) = false := by rfl) : DF X EA (.Call (.Name "abs" p) [e] [] pos) (mOpt hAbs r) :=
  df_callB call_abs hAbs (fun G H vs ds d Q sm rv h q => by
    unfold hAbs at h
    split at h
    · cases h
      obtain ⟨v, rfl, rw'⟩ := repL1 rv
      cases rw'
      exact ⟨_, rfl, q _ rfl⟩
    · cases h) hg hm (by decide +kernel) ha (by decide) (by decide) he hpl
/-- bools of a list -/
noncomputable def blsOf : List D → Option (List Bool)
  | [] => some []
  | .bl i :: r => (blsOf r).map (i :: ·)
  | _ :: _ => none
theorem blsOf_rep {B : Bx} {G : Hp} : ∀ {ds : List D} {ns : List Bool} {xs : List V}, blsOf ds = some ns → RepL B G ds xs → xs = ns.map V.bl
  | [], ns, xs, h, r => by cases h; exact r
  | d :: ds, ns, xs, h, ⟨x, xr, e, hd, ht⟩ => by
    cases d <;> simp only [blsOf] at h <;> try (cases h; done)
    rename_i i
    cases q : blsOf ds with
    | none => rw [q] at h; cases h
    | some ms =>
      rw [q] at h; cases h
      have hx : x = V.bl i := hd
      rw [e, hx, blsOf_rep q ht]; rfl
theorem blsOf_map : ∀ ns : List Bool, blsOf (ns.map D.bl) = some ns
  | [] => rfl
  | n :: ns => by simp [blsOf, blsOf_map ns]
noncomputable def hAll : List D → Option D
  | [.lst ds] => (blsOf ds).map fun bs => .bl (bs.all _root_.id)
  | _ => none
theorem df_all (hca : X.calm = true) (hg : Gl X "all") (hm : X.mg "all" = none) (ha : DA X EA [e] r) (he : starEach [e] X.env = (false, eval e X.env) :: starEach [] X.env := by rfl) (hpl : (backTo pos (starEach [] X.env)).any (·.1) = false := by rfl) : DF X EA (.Call (.Name "all" p) [e] [] pos) (mOpt hAll r) :=
  df_callB (cr_all hca) hAll (fun G H vs ds d Q sm rv h q => by
    unfold hAll at h
    split at h
    · rename_i es
      cases hi : blsOf es with
      | none => rw [hi] at h; cases h
      | some bs =>
        rw [hi] at h; cases h
        obtain ⟨v, rfl, rw'⟩ := repL1 rv
        obtain ⟨l, xs, rfl, hl, rx⟩ := rw'
        rw [blsOf_rep hi rx] at hl
        exact ⟨l, bs, rfl, SqL.of (sm _ _ hl), q _ rfl⟩
    · cases h) hg hm (by decide +kernel) ha (by decide) (by decide) he hpl
/-- the greatest of ints -/
noncomputable def mostI : List Int → Option Int
  | [] => none
  | n :: ns => some (ns.foldl (fun a b => if a < b then b else a) n)
theorem foldl_max : ∀ (ns : List Int) (n : Int), (ns.foldl (fun a b => if a < b then b else a) n ∈ n :: ns) ∧ ∀ y ∈ n :: ns, y ≤ ns.foldl (fun a b => if a < b then b else a) n
  | [], n => ⟨by simp, by simp⟩
  | m :: ns, n => by
    obtain ⟨h1, h2⟩ := foldl_max ns (if n < m then m else n)
    show (ns.foldl _ (if n < m then m else n) ∈ _) ∧ ∀ y ∈ _, y ≤ ns.foldl _ (if n < m then m else n)
    generalize ns.foldl (fun a b => if a < b then b else a) (if n < m then m else n) = z at h1 h2 ⊢
    have hz := h2 _ List.mem_cons_self
    refine ⟨?_, fun y hy => ?_⟩
    · rcases List.mem_cons.mp h1 with e | e
      · rw [e]; split <;> simp
      · simp [e]
    · rcases List.mem_cons.mp hy with e | e
      · rw [e]; split at hz <;> omega
      · rcases List.mem_cons.mp e with e | e
        · rw [e]; split at hz <;> omega
        · exact h2 y (List.mem_cons_of_mem _ e)
theorem mostI_spec {ns : List Int} {m : Int} (h : mostI ns = some m) : m ∈ ns ∧ ∀ y ∈ ns, y ≤ m := by
  cases ns with
  | nil => cases h
  | cons n ns => cases h; exact foldl_max ns n
noncomputable def hMax : List D → Option D
  | [d] => (hInts d).bind fun ns => (mostI ns).map D.int
  | _ => none
theorem df_max (hca : X.calm = true) (hg : Gl X "max") (hm : X.mg "max" = none) (ha : DA X EA [e] r) (he : starEach [e] X.env = (false, eval e X.env) :: starEach [] X.env := by rfl) (hpl : (backTo pos (starEach [] X.env)).any (·.1) = false := by rfl) : DF X EA (.Call (.Name "max" p) [e] [] pos) (mOpt hMax r) :=
  df_callB (cr_max hca) hMax (fun G H vs ds d Q sm rv h q => by
    unfold hMax at h
    split at h
    · rename_i dd
      cases hi : hInts dd with
      | none => rw [hi] at h; cases h
      | some ns =>
        rw [hi] at h
        simp only [Option.bind_some] at h
        cases hl : mostI ns with
        | none => rw [hl] at h; cases h
        | some m =>
          rw [hl] at h; cases h
          obtain ⟨v, rfl, rw'⟩ := repL1 rv
          obtain ⟨l, rfl, hq⟩ := hInts_rep hi rw'
          obtain ⟨m1, m2⟩ := mostI_spec hl
          refine ⟨l, ns, rfl, sm.seq hq, by cases ns with | nil => cases m1 | cons => simp, fun m' h1 h2 => ?_⟩
          have : m' = m := Int.le_antisymm (m2 m' h1) (h2 m m1)
          rw [this]; exact q _ rfl
    · cases h) hg hm (by decide +kernel) ha (by decide) (by decide) he hpl
end
end DL
namespace DL
open PySem PySem.Spec PyProof.Rows L2
/-- what the text says of class c and of the name f in its instances -/
structure ClsF (K : Fg) (mg : Str → Option Value) (c f : Str) : Prop where
  ex : ∃ C, mg c = some (.ref C) ∧ Cls K C ∧ NoAttr K C f
noncomputable def ClsFs (K : Fg) (mg : Str → Option Value) (cs : List Str) (f : Str) : Prop := ∀ c ∈ cs, ClsF K mg c f
section
variable {K : Fg} {mg : Str → Option Value} {c f : Str} {cs : List Str}
theorem cfs_nil : ClsFs K mg [] f := fun c h => by cases h
theorem cfs_cons (h : ClsF K mg c f) (t : ClsFs K mg cs f) : ClsFs K mg (c :: cs) f := fun d hd => by
  rcases List.mem_cons.mp hd with e | e
  · rw [e]; exact h
  · exact t d e
end
noncomputable def lookF {α : Type} (f : Str) : List Str → List α → Option α
  | n :: ns, x :: xs => if f = n then some x else lookF f ns xs
  | _, _ => none
theorem lookF_rep {B : Bx} {G : Hp} {f : Str} {d : D} : ∀ {ns : List Str} {ds : List D} {xs : List V}, RepL B G ds xs → lookF f ns ds = some d → ∃ v, (ns.zip xs).lookup f = some v ∧ Rep B G d v
  | [], ds, xs, r, h => by unfold lookF at h; cases h
  | n :: ns, [], xs, r, h => by unfold lookF at h; cases h
  | n :: ns, e :: ds, xs, ⟨x, xr, ex, hd, ht⟩, h => by
    unfold lookF at h
    subst ex
    show ∃ v, List.lookup f ((n, x) :: ns.zip xr) = some v ∧ _
    rw [lookup_put]
    by_cases hf : f = n
    · rw [if_pos hf] at h ⊢; cases h; exact ⟨x, rfl, hd⟩
    · rw [if_neg hf] at h ⊢; exact lookF_rep ht h
theorem lookF_none {B : Bx} {G : Hp} {f : Str} : ∀ {ns : List Str} {ds : List D} {xs : List V}, RepL B G ds xs → lookF f ns ds = none → (ns.zip xs).lookup f = none
  | [], ds, xs, r, h => rfl
  | n :: ns, [], xs, r, h => by have : xs = [] := r; rw [this]; rfl
  | n :: ns, e :: ds, xs, ⟨x, xr, ex, hd, ht⟩, h => by
    unfold lookF at h
    subst ex
    show List.lookup f ((n, x) :: ns.zip xr) = none
    rw [lookup_put]
    by_cases hf : f = n
    · rw [if_pos hf] at h; cases h
    · rw [if_neg hf] at h ⊢; exact lookF_none ht h
noncomputable def putN (f : Str) : List Str → List Str
  | [] => [f]
  | n :: ns => if n = f then n :: ns else n :: putN f ns
noncomputable def putX {α : Type} (f : Str) (v : α) : List Str → List α → List α
  | n :: ns, x :: xs => if n = f then v :: xs else x :: putX f v ns xs
  | _, _ => [v]
theorem putX_zip (f : Str) (v : V) : ∀ {ns : List Str} {xs : List V}, ns.length = xs.length → putF f v (ns.zip xs) = (putN f ns).zip (putX f v ns xs)
  | [], [], _ => rfl
  | n :: ns, x :: xs, h => by
    show putF f v ((n, x) :: ns.zip xs) = (putN f (n :: ns)).zip (putX f v (n :: ns) (x :: xs))
    unfold putN putX putF
    by_cases e : n = f
    · rw [if_pos e, if_pos e, if_pos e]; rfl
    · rw [if_neg e, if_neg e, if_neg e, putX_zip f v (by simpa using h)]; rfl
theorem putX_length {α : Type} (f : Str) (v : α) : ∀ {ns : List Str} {xs : List α}, ns.length = xs.length → (putN f ns).length = (putX f v ns xs).length
  | [], [], _ => rfl
  | n :: ns, x :: xs, h => by
    unfold putN putX
    by_cases e : n = f
    · rw [if_pos e, if_pos e]; simpa using h
    · rw [if_neg e, if_neg e, List.length_cons, List.length_cons, putX_length f v (by simpa using h)]
theorem putX_rep {B : Bx} {G : Hp} {f : Str} {d : D} {v : V} (hv : Rep B G d v) : ∀ {ns : List Str} {ds : List D} {xs : List V}, RepL B G ds xs → RepL B G (putX f d ns ds) (putX f v ns xs)
  | [], ds, xs, r => by unfold putX; exact RepL.one hv
  | n :: ns, [], xs, r => by have : xs = [] := r; rw [this]; unfold putX; exact RepL.one hv
  | n :: ns, e :: ds, xs, ⟨x, xr, ex, hd, ht⟩ => by
    subst ex
    unfold putX
    by_cases h : n = f
    · rw [if_pos h, if_pos h]; exact RepL.cons hv ht
    · rw [if_neg h, if_neg h]; exact RepL.cons hd (putX_rep hv ht)
noncomputable def hFld (cs : List Str) (f : Str) : D → Option D
  | .obj c ns ds => if c ∈ cs then lookF f ns ds else none
  | _ => none
section
variable {X : Cx} {EA : XK} {a b c e o : Expr} {es : List Expr} {pos pos' p p2 ap : Pos} {f g : M D} {r : M (List D)} {x fl m : Str} {cs : List Str}
theorem df_fld (hc : ClsFs X.K X.mg cs fl) (ha : DF X EA e g) (hb : attributeBase e fl X.env (eval e X.env) = eval e X.env := by rfl) : DF X EA (.Attribute e fl pos) (mOpt (hFld cs fl) g) := by
  refine pe_imp (pe_fld ha hb) fun σ H Q ⟨A, H0, G0, env, G, S, h1⟩ => ?_
  refine seq1 (k := fun a e2 => (optR (hFld cs fl a)).map fun d => (d, e2)) S h1 fun x G2 H2 a e2 S2 s2 r1 h2 => ?_
  obtain ⟨d, ed, h3⟩ := optR_sat (Res.sat_map h2)
  cases a <;> simp only [hFld] at ed <;> try (cases ed; done)
  rename_i c ns ds
  split at ed
  · rename_i hcs
    obtain ⟨a, ca, dx, xs, rfl, hm, ha, rx, hl⟩ := r1
    obtain ⟨C, hC, cl, na⟩ := (hc c hcs).ex
    have : ca = C := by rw [show X.mg c = some (.ref ca) from hm] at hC; cases hC; rfl
    subst this
    obtain ⟨v, hv, rv⟩ := lookF_rep rx ed
    exact ⟨a, ca, dx, _, v, rfl, S2.same _ _ ha, cl, na, hv, h3 v G2 H2 S2 s2 rv⟩
  · cases ed
/-- a field of what a name holds, owned or frozen -/
noncomputable def gFldN (i : Nat) (cs : List Str) (f : Str) : M D := fun env => match env[i]? with
  | some (.fz d) => (optR (hFld cs f d)).map fun y => (y, env)
  | some (.ob c ns ds) => if c ∈ cs then (optR (lookF f ns ds)).map fun y => (y, env) else .stuck
  | _ => .stuck
theorem df_fldN {i : Nat} (h : PE X (.Name x p) (tVar i)) (hc : ClsFs X.K X.mg cs fl) (hb : attributeBase (.Name x p) fl X.env (eval (.Name x p) X.env) = eval (.Name x p) X.env := by rfl) : DF X EA (.Attribute (.Name x p) fl pos) (gFldN i cs fl) := by
  refine pe_imp (pe_fld h hb) fun σ H Q ⟨A, H0, G0, env, G, S, h1⟩ => ?_
  unfold gFldN at h1
  split at h1
  · rename_i d0 e0
    obtain ⟨d, ed, h3⟩ := optR_sat (Res.sat_map h1)
    obtain ⟨v0, ev, r1⟩ := S.cell i _ e0
    cases d0 <;> simp only [hFld] at ed <;> try (cases ed; done)
    rename_i c ns ds
    split at ed
    · rename_i hcs
      obtain ⟨a, ca, dx, xs, rfl, hm, ha, rx, hl⟩ := r1
      obtain ⟨C, hC, cl, na⟩ := (hc c hcs).ex
      have : ca = C := by rw [show X.mg c = some (.ref ca) from hm] at hC; cases hC; rfl
      subst this
      obtain ⟨v, hv, rv⟩ := lookF_rep rx ed
      exact ⟨_, join_some ev, a, ca, dx, _, v, rfl, S.same _ _ ha, cl, na, hv, h3 v G H S (Same.refl _) rv⟩
    · cases ed
  · rename_i c ns ds e0
    split at h1
    · rename_i hcs
      obtain ⟨d, ed, h3⟩ := optR_sat (Res.sat_map h1)
      obtain ⟨a, ca, dx, xs, ev, hm, ha, hg, rx, hl⟩ := S.cell i _ e0
      obtain ⟨C, hC, cl, na⟩ := (hc c hcs).ex
      have : ca = C := by rw [show X.mg c = some (.ref ca) from hm] at hC; cases hC; rfl
      subst this
      obtain ⟨v, hv, rv⟩ := lookF_rep rx ed
      exact ⟨_, join_some ev, a, ca, dx, _, v, rfl, ha, cl, na, hv, h3 v G H S (Same.refl _) rv⟩
    · exact h1.elim
  · exact h1.elim
/-- x.f = e, x owned -/
noncomputable def sSetF (i : Nat) (cs : List Str) (f : Str) (g : M D) : SM := fun env => (g env).bind fun p => match p.2[i]? with
  | some (.ob c ns ds) => if c ∈ cs ∧ ns.length < 1000 then .ok (.nx (p.2.set i (.ob c (putN f ns) (putX f p.1 ns ds)))) else .stuck
  | _ => .stuck
theorem zip_len {ns : List Str} {xs : List V} (h : ns.length = xs.length) : (ns.zip xs).length = ns.length := by rw [List.length_zip, ← h, Nat.min_self]
theorem ds_setF {i : Nat} (h : PE X (.Name x p) (tVar i)) (hc : ClsFs X.K X.mg cs fl) (ha : DF X EA e g) (hs : swapsWith e (some (.Attribute (.Name x p) fl pos')) pos.line X.env = pure false := by rfl) : DS X EA (.Assign [.Attribute (.Name x p) fl pos'] e pos) (sSetF i cs fl g) := by
  refine ps_imp (ps_fld h ha hs) fun Dd σ H ⟨A, H0, G0, env, G, S, hh⟩ => ?_
  refine ⟨A, H0, G0, env, G, S, Res.sat_mono (Res.sat_bind hh) (fun q hq v G1 H1 S1 s1 rv => ?_) fun _ z => z⟩
  split at hq
  · rename_i c ns ds e0
    split at hq
    · rename_i hcs
      obtain ⟨a, ca, dx, xs, ev, hm, ha, hg, rx, hl⟩ := S1.cell i _ e0
      obtain ⟨C, hC, cl, na⟩ := (hc c hcs.1).ex
      have : ca = C := by rw [show X.mg c = some (.ref ca) from hm] at hC; cases hC; rfl
      subst this
      have hlx : ns.length = xs.length := by rw [rx.length]; exact hl
      have el := join_some ev
      refine ⟨_, el, a, ca, dx, _, rfl, ha, cl, na, by rw [zip_len hlx]; exact hcs.2, ?_⟩
      rw [putX_zip fl v hlx]
      refine hq G1 σ _ (S1.upd e0 rfl el ⟨a, ca, dx, _, rfl, hm, upd_same, hg, putX_rep rv rx, putX_length fl _ hl⟩ rfl (by intro a b d z; exact ⟨_, _, _, rfl⟩))
    · exact hq.elim
  · exact hq.elim
end
/-- a method of the class c that reads its object only -/
structure DMet (P : Program) (w : World) (K : Fg) (mg : Str → Option Value) (base : Heap) (CX : CXT) (k : Nat) (c m : Str) (F : List D → Res Cell) : Prop where
  ex : ∃ C f fd ps, mg c = some (.ref C) ∧ Cls K C ∧ Meth K C m f ∧ FnOk P w K mg base CX k f fd ps (pureSp ⟨K, P, w, mg⟩ F) ∧ Binds K fd ps []
section
variable {X : Cx} {EA : XK} {a b c e o : Expr} {es : List Expr} {pos pos' p p2 ap : Pos} {f g : M D} {r : M (List D)} {x cl m : Str} {k j : Nat} {F : List D → Res Cell} {CX : CXT}
/-- o.m(..): the object, then the arguments -/
noncomputable def gMeth (cl m : Str) (F : List D → Res Cell) (g : M D) (r : M (List D)) : M Cell := fun env => (g env).bind fun p => match p.1 with
  | .obj c ns ds => if c = cl ∧ lookF m ns ds = none then (r p.2).bind fun q => (F (.obj c ns ds :: q.1)).map fun z => (z, q.2) else .stuck
  | _ => .stuck
theorem meth_sem {C : Addr} {ta : TE} {t : TA} {E : XK} {σ : L2.St} {H : Hp} {Q : VK} {A H0 G0 env G} (hC : X.mg cl = some (.ref C)) (S : SR (bx X) A H0 G0 env G σ H) (hta : ∀ Q, tF (bx X) E g σ H Q → ta σ H Q) (ht : ∀ σ H Q, tAr (bx X) E r σ H Q → t σ H Q)
    (h : (gMeth cl m F g r env).sat (fun r => ∀ v G' H', SR (bx X) A H0 G0 r.2 G' σ H' → Same G G' → Val (bx X) H0 r.2 G' σ H' r.1 v → Q v H') (XOk (bx X) A H0 G0 E)) : tMeth C m (pureSp (bx X) F) [] E ta t σ H Q := by
  refine hta _ (seq1 (β := Cell × DEnv) (k := fun d e2 => match d with | .obj c ns ds => if c = cl ∧ lookF m ns ds = none then (r e2).bind fun q => (F (.obj c ns ds :: q.1)).map fun z => (z, q.2) else .stuck | _ => .stuck) S h fun y G1 H1 d e1 S1 s1 r1 h2 => ?_)
  cases d with
  | obj c ns ds =>
    simp only at h2
    split at h2
    · rename_i hc
      have r1' : Rep (bx X) G1 (.obj c ns ds) y := r1
      obtain ⟨a, ca, dx, xs, rfl, hm, ha, rx, hl⟩ := r1
      have : ca = C := by rw [hc.1] at hm; rw [show X.mg cl = some (.ref ca) from hm] at hC; cases hC; rfl
      subst this
      refine ⟨a, dx, _, rfl, S1.same _ _ ha, lookF_none rx hc.2, ht _ _ _ ⟨A, H0, G0, e1, G1, S1, Res.sat_mono (Res.sat_bind h2) (fun q hq vs G2 H2 S2 s2 rv => ?_) fun _ z => z⟩⟩
      show pureSp (bx X) F (V.ref a :: (vs ++ [])) H2 Q E
      rw [List.append_nil]
      exact call_end S2 (RepL.cons (Rep.mono s2 _ _ r1') rv) (Res.sat_mono hq (fun z hz v G' H' S' s' W => hz v G' H' S' (s1.trans (s2.trans s')) W) fun _ z => z)
    · exact h2.elim
  | _ => exact h2.elim
theorem de_meth {pl : Sem Bool} (c : DMet X.prog X.w X.K X.mg X.base CX k cl m F) (hr : Room j X.A) (hk : k ≤ j) (hx : Passes CX X EA) (ho : DF X EA o g) (ha : DA X EA (e :: es) r)
    (hst : starEach (e :: es) X.env = (false, eval e X.env) :: starEach es X.env := by rfl) (hpl : (backTo pos (starEach es X.env)).any (·.1) = false := by rfl)
    (ht : eval (.Call (.Attribute o m ap) (e :: es) [] pos) X.env = (do
      let ov ← eval o X.env
      standAt ap.atName
      let (f, first) ← holding [ov] (getMethod ov m pl)
      callWith pos f first (backTo pos (starEach (e :: es) X.env)) (backToKw pos (keywordEach [] X.env))) := by rfl) :
    DE X EA (.Call (.Attribute o m ap) (e :: es) [] pos) (gMeth cl m F g r) := by
  obtain ⟨C, f, fd, ps, hC, hcl, hm, Fn, hb⟩ := c.ex
  refine pe_imp (pe_meth (E := EA) ho hcl hm Fn (hr.mono hk) hb .nil hx ha hst hpl ht) fun σ H Q ⟨A, H0, G0, env, G, S, h1⟩ => ?_
  exact meth_sem hC S (fun _ z => z) (fun _ _ _ z => z) h1
end
noncomputable abbrev SF := Cell → List D → Res (Cell × Cell)
noncomputable def selfSp (B : Bx) (F : SF) : Sp := fun vs H Q E => ∃ G a c ns os vr ds, vs = .ref a :: vr ∧ Same G H ∧ CellOk B G H (.ob c ns os) (some (.ref a)) ∧ RepL B G ds vr ∧
  (F (.ob c ns os) ds).sat (fun r => ∀ v G' H', Same G G' → Same G' H' → (∀ b, G' b ≠ none → G b = none → H b = none) → (∀ b o, b ≠ a → H b = some o → H' b = some o) → (∃ c' ns' os', r.2 = .ob c' ns' os') → CellOk B G' H' r.2 (some (.ref a)) → CellV B G H G' H' r.1 v → Q v H')
    (fun x => ∀ ca od G' H', B.mg x.c = some (.ref ca) → Same G G' → Same G' H' → (∀ b, G' b ≠ none → G b = none → H b = none) → (∀ b o, b ≠ a → H b = some o → H' b = some o) → RepX B H G' H' x od → E (.ref ca) od H')
/-- the own object behind the body -/
noncomputable def outS : Out → Res (Cell × Cell)
  | .rt c e => match e[0]? with
    | some s => .ok (c, s)
    | none => .stuck
  | .nx e => match e[0]? with
    | some s => .ok (.fz .non, s)
    | none => .stuck
  | _ => .stuck
noncomputable def runsS (n k : Nat) (T : SM) : SF := fun c ds => if ds.length = n then (T (c :: (ds.map Cell.fz ++ List.replicate k Cell.no))).bind outS else .stuck
section
variable {B : Bx} {A : Option Addr} {H0 G0 : Hp} {env : DEnv} {G G' : Hp} {σ : L2.St} {H H' : Hp}
/-- what is owned has changed, and all else is as it was -/
theorem SR.own {i : Nat} {l : Addr} {c c' : Cell} (S : SR B A H0 G0 env G σ H) (hi : env[i]? = some c) (ho : c.own = true) (hl : σ[i]? = some (some (.ref l))) (hs : Same G G') (hn : ∀ b, G' b ≠ none → G b = none → H b = none) (hG : Same G' H') (hk : ∀ b o, b ≠ l → H b = some o → H' b = some o)
    (hc' : CellOk B G' H' c' (some (.ref l))) (ho' : c'.own = true) (hob : ∀ a b d, c = .ob a b d → ∃ a' b' d', c' = .ob a' b' d') : SR B A H0 G0 (env.set i c') G' σ H' := by
  have ilt : i < env.length := (List.getElem?_eq_some_iff.mp hi).1
  obtain ⟨l', u', e1, h1, g1⟩ := (S.cell i c hi).addr ho
  rw [join_of hl] at e1; cases e1
  refine ⟨by rw [List.length_set]; exact S.len, S.ext.trans hs, hG, fun a h1 h2 => ?_, fun a o hA e => ?_, fun j d ej => ?_, fun j d l' ej hd e1 => ?_, fun j k d d' l' ej ek hd hd' e1 e2 => ?_, fun a ha => ?_⟩
  · cases e : G a with
    | some u => exact S.new a (by rw [e]; exact fun z => by cases z) h2
    | none =>
      have q := hn a h1 e
      cases e0 : H0 a with
      | none => rfl
      | some u =>
        by_cases hA : A = some a
        · obtain ⟨z, c, ns, ds, ec⟩ := S.slf a hA
          obtain ⟨l, u', e1, e2, e3⟩ := (S.cell 0 _ ec).addr rfl
          rw [join_of z] at e1; cases e1
          rw [q] at e2; cases e2
        · rw [S.keep a u hA e0] at q; cases q
  · have e2 := S.keep a o hA e
    rcases S.frsh i c l hi ho hl with z | z
    · exact hk a o (ne_of_none e z) e2
    · exact hk a o (fun w => hA (by rw [w]; exact z)) e2
  · by_cases hij : i = j
    · subst hij
      rw [List.getElem?_set_self ilt] at ej; cases ej
      rw [join_of hl]; exact hc'
    · rw [List.getElem?_set_ne hij] at ej
      refine (S.cell j d ej).step hs (fun l2 hd e1 => ?_) (fun l2 u2 hd e1 h2 => ?_)
      · obtain ⟨l3, u3, e3, h3, g3⟩ := (S.cell j d ej).addr hd
        rw [e1] at e3; cases e3
        cases q : G' l2 with
        | none => rfl
        | some z => have := hn l2 (by rw [q]; exact fun z => by cases z) g3; rw [h3] at this; cases this
      · have hne : l2 ≠ l := fun z => by subst z; exact hij (S.dist i j _ _ _ hi ej ho hd hl (join_some e1))
        exact hk _ _ hne h2
  · by_cases hij : i = j
    · subst hij
      exact S.frsh i c l' hi ho e1
    · rw [List.getElem?_set_ne hij] at ej; exact S.frsh j d l' ej hd e1
  · by_cases hij : i = j
    · subst hij
      by_cases hik : i = k
      · exact hik
      · rw [List.getElem?_set_ne hik] at ek
        exact S.dist i k c d' l' hi ek ho hd' e1 e2
    · rw [List.getElem?_set_ne hij] at ej
      by_cases hik : i = k
      · subst hik; exact S.dist j i d c l' ej hi hd ho e1 e2
      · rw [List.getElem?_set_ne hik] at ek
        exact S.dist j k d d' l' ej ek hd hd' e1 e2
  · obtain ⟨z1, c1, ns, ds, ec⟩ := S.slf a ha
    refine ⟨z1, ?_⟩
    by_cases h0 : i = 0
    · subst h0
      rw [hi] at ec
      obtain ⟨a', b', d', e'⟩ := hob c1 ns ds (Option.some.inj ec)
      exact ⟨a', b', d', by rw [List.getElem?_set_self ilt, e']⟩
    · rw [List.getElem?_set_ne h0]; exact ⟨c1, ns, ds, ec⟩
theorem start_selfSR {a : Addr} {c : Str} {ns : List Str} {os ds : List D} {vr : List V} (k : Nat) (hs : Same G H) (hc : CellOk B G H (.ob c ns os) (some (.ref a))) (r : RepL B G ds vr) :
    SR B (some a) H G (.ob c ns os :: (ds.map Cell.fz ++ List.replicate k Cell.no)) G ((V.ref a :: vr).map some ++ List.replicate k none) H where
  len := by simp [r.length]
  ext := Same.refl _
  same := hs
  new := fun a h1 h2 => (h1 h2).elim
  keep := fun _ _ _ e => e
  cell := fun i d e => by
    cases i with
    | zero => simp at e; subst e; exact hc
    | succ i => exact start_cells k r i d (by simpa using e)
  frsh := fun i d l e ho el => by
    cases i with
    | zero => simp at el; exact .inr (by rw [el])
    | succ i => rw [fz_not_own (by simpa using e)] at ho; cases ho
  dist := fun i j d d' l e e' ho ho' _ _ => by
    cases i with
    | zero =>
      cases j with
      | zero => rfl
      | succ j => rw [fz_not_own (by simpa using e')] at ho'; cases ho'
    | succ i => rw [fz_not_own (by simpa using e)] at ho; cases ho
  slf := fun b h => by
    have : a = b := Option.some.inj h
    subst this
    exact ⟨by simp, c, ns, os, by simp⟩
end
/-- a def whose first argument is its own, by its body: any context -/
theorem self_body {P : Program} {w : World} {K : Fg} {mg : Str → Option Value} {N : List Str} {n n' : Nat} {T : SM} {vs : List V} {H : Hp} {Q : VK} {E : XK} (hn : N.length = n + 1 + n')
    (h : selfSp ⟨K, P, w, mg⟩ (runsS n n' T) vs H Q E) : vs.length = n + 1 ∧ tS ⟨K, P, w, mg⟩ E T { nx := fun _ H' => Q .non H', rt := Q } (start N vs) H := by
  obtain ⟨G, a, c, ns, os, vr, ds, rfl, hs, hc, r, h⟩ := h
  unfold runsS at h
  split at h
  rotate_left
  · exact h.elim
  rename_i hl
  have hlv : vr.length = n := by rw [r.length]; exact hl
  refine ⟨by rw [List.length_cons, hlv], ?_⟩
  have ez : N.length - (V.ref a :: vr).length = n' := by rw [List.length_cons, hlv]; omega
  unfold L2.start
  rw [ez]
  refine ⟨some a, H, G, _, G, start_selfSR n' hs hc r, Res.sat_mono (Res.sat_bind h) (fun o ho => ?_) (fun x hx ca od G' H' h0 h1 h2 h3 h4 h5 => hx ca od G' H' h0 h1 h2 h3 (fun b o hb e => h4 b o (fun z => hb (Option.some.inj z).symm) e) h5)⟩
  have fin : ∀ {e : DEnv} {c1 : Cell} {s1 : Cell} {v : V} {G' σ' H'}, e[0]? = some s1 → SR ⟨K, P, w, mg⟩ (some a) H G e G' σ' H' → CellV ⟨K, P, w, mg⟩ G H G' H' c1 v → (∀ v G' H', Same G G' → Same G' H' → (∀ b, G' b ≠ none → G b = none → H b = none) → (∀ b o, b ≠ a → H b = some o → H' b = some o) → (∃ c' ns' os', s1 = .ob c' ns' os') → CellOk ⟨K, P, w, mg⟩ G' H' s1 (some (.ref a)) → CellV ⟨K, P, w, mg⟩ G H G' H' c1 v → Q v H') → Q v H' := fun {e c1 s1 v G' σ' H'} e0 S' W k => by
    obtain ⟨z1, c', ns', os', ec⟩ := S'.slf a rfl
    rw [e0] at ec; cases ec
    have C := S'.cell 0 _ e0
    rw [join_of z1] at C
    exact k v G' H' S'.ext S'.same S'.new (fun b o hb e => S'.keep b o (fun z => hb (Option.some.inj z).symm) e) ⟨_, _, _, rfl⟩ C W
  cases o with
  | nx e =>
    intro G' σ' H' S'
    cases e0 : e[0]? with
    | none =>
      have : outS (.nx e) = .stuck := by simp only [outS, e0]
      rw [this] at ho; exact ho.elim
    | some s1 =>
      have : outS (.nx e) = .ok (.fz .non, s1) := by simp only [outS, e0]
      rw [this] at ho
      exact fin (v := V.non) (c1 := .fz .non) e0 S' ⟨⟨_, rfl, rfl⟩, fun z => by cases z⟩ ho
  | rt c1 e =>
    intro v G' σ' H' S' W
    cases e0 : e[0]? with
    | none =>
      have : outS (.rt c1 e) = .stuck := by simp only [outS, e0]
      rw [this] at ho; exact ho.elim
    | some s1 =>
      have : outS (.rt c1 e) = .ok (c1, s1) := by simp only [outS, e0]
      rw [this] at ho
      exact fin e0 S' ⟨W.cell, fun z l e => (W.frsh l z e).1⟩ ho
  | bk e => exact ho.elim
  | ct e => exact ho.elim
/-- the same of a def that only reads its arguments -/
theorem pure_body {P : Program} {w : World} {K : Fg} {mg : Str → Option Value} {N : List Str} {n n' : Nat} {T : SM} {vs : List V} {H : Hp} {Q : VK} {E : XK} (hn : N.length = n + n')
    (h : pureSp ⟨K, P, w, mg⟩ (runs n n' T) vs H Q E) : vs.length = n ∧ tS ⟨K, P, w, mg⟩ E T { nx := fun _ H' => Q .non H', rt := Q } (start N vs) H := by
  obtain ⟨G, ds, hs, r, h⟩ := h
  unfold runs at h
  split at h
  rotate_left
  · exact h.elim
  rename_i hl
  have hlv : vs.length = n := by rw [r.length]; exact hl
  refine ⟨hlv, ?_⟩
  have ez : N.length - vs.length = n' := by rw [hlv]; omega
  unfold L2.start
  rw [ez]
  refine ⟨none, H, G, _, G, start_SR n' hs r, Res.sat_mono (Res.sat_bind h) (fun o ho => ?_) (fun x hx ca od G' H' h0 h1 h2 h3 h4 h5 => hx ca od G' H' h0 h1 (fun a o e => h4 a o (by simp) e) h2 h3 h5)⟩
  cases o with
  | nx e => exact fun G' σ' H' S' => ho .non G' H' S'.ext (fun a o e => S'.keep a o (by simp) e) S'.same S'.new ⟨⟨_, rfl, rfl⟩, fun z => by cases z⟩
  | rt c e => exact fun v G' σ' H' S' W => ho v G' H' S'.ext (fun a o e => S'.keep a o (by simp) e) S'.same S'.new ⟨W.cell, fun z l e => (W.frsh l z e).1⟩
  | bk e => exact ho.elim
  | ct e => exact ho.elim
section
variable {B : Bx} {A : Option Addr} {H0 G0 : Hp} {env : DEnv} {G G' : Hp} {σ : L2.St} {H H' : Hp}
theorem SR.newOf (S : SR B A H0 G0 env G σ H) (hn : ∀ b, G' b ≠ none → G b = none → H b = none) : ∀ a, G' a ≠ none → G0 a = none → H0 a = none := fun a h1 h2 => by
  cases e : G a with
  | some u => exact S.new a (by rw [e]; exact fun z => by cases z) h2
  | none =>
    have q := hn a h1 e
    cases e0 : H0 a with
    | none => rfl
    | some u =>
      by_cases hA : A = some a
      · obtain ⟨z, c, ns, ds, ec⟩ := S.slf a hA
        obtain ⟨l, u', e1, e2, e3⟩ := (S.cell 0 _ ec).addr rfl
        rw [join_of z] at e1; cases e1
        rw [q] at e2; cases e2
      · rw [S.keep a u hA e0] at q; cases q
theorem self_end {F : SF} {i : Nat} {l : Addr} {c : Str} {ns : List Str} {os ds : List D} {vs : List V} {Q : VK} {E : XK} (S : SR B A H0 G0 env G σ H) (hi : env[i]? = some (.ob c ns os)) (hl : σ[i]? = some (some (.ref l))) (rv : RepL B G ds vs)
    (h : ((F (.ob c ns os) ds).map fun q => (q.1, env.set i q.2)).sat (fun r => ∀ v G' H', SR B A H0 G0 r.2 G' σ H' → Same G G' → Val B H0 r.2 G' σ H' r.1 v → Q v H') (XOk B A H0 G0 E)) : selfSp B F (.ref l :: vs) H Q E := by
  have C := S.cell i _ hi
  rw [join_of hl] at C
  have hHl : H l ≠ none := by
    obtain ⟨l', u, e1, e2, e3⟩ := (S.cell i _ hi).addr rfl
    rw [join_of hl] at e1; cases e1
    rw [e2]; intro z; cases z
  refine ⟨G, l, c, ns, os, vs, ds, rfl, S.same, C, rv, Res.sat_mono (Res.sat_map h) (fun r hr v G' H' hs hG hn hk hob hc W => ?_) (fun x hx ca od G' H' h0 h1 h2 h3 h4 h5 => ?_)⟩
  · obtain ⟨c', ns', os', eo⟩ := hob
    have S' : SR B A H0 G0 (env.set i r.2) G' σ H' := S.own hi rfl hl hs hn hG hk hc (by rw [eo]; rfl) (fun _ _ _ _ => ⟨c', ns', os', eo⟩)
    refine hr v G' H' S' hs ⟨W.1, fun l' ho e => ?_⟩
    have hl' := W.2 ho l' e
    have hne : l' ≠ l := fun z => hHl (by rw [← z]; exact hl')
    obtain ⟨f1, f2⟩ := S.fresh0 hl'
    refine ⟨f1, fun j d ej hd el => ?_⟩
    by_cases hij : i = j
    · subst hij; rw [hl] at el; cases el; exact hne rfl
    · rw [List.getElem?_set_ne hij] at ej; exact f2 j d ej hd el
  · refine hx ca od G' H' h0 (S.ext.trans h1) h2 (S.newOf h3) (fun a o hA e => ?_) (S.repX h5)
    have e2 := S.keep a o hA e
    rcases S.frsh i _ l hi rfl hl with z | z
    · exact h4 a o (ne_of_none e z) e2
    · exact h4 a o (fun w => hA (by rw [w]; exact z)) e2
end
/-- a def of the module whose first argument is its own -/
structure DSelf (P : Program) (w : World) (K : Fg) (mg : Str → Option Value) (base : Heap) (CX : CXT) (k : Nat) (x : Str) (F : SF) : Prop where
  ex : ∃ f fd ps, FnOk P w K mg base CX k f fd ps (selfSp ⟨K, P, w, mg⟩ F) ∧ mg x = some (.ref f) ∧ PySem.W.keepIn K (.ref f) = true ∧ Binds K fd ps []
/-- .. a method of the class c -/
structure DSMet (P : Program) (w : World) (K : Fg) (mg : Str → Option Value) (base : Heap) (CX : CXT) (k : Nat) (c m : Str) (F : SF) : Prop where
  ex : ∃ C f fd ps, mg c = some (.ref C) ∧ Cls K C ∧ Meth K C m f ∧ FnOk P w K mg base CX k f fd ps (selfSp ⟨K, P, w, mg⟩ F) ∧ Binds K fd ps []
/-- .. the __init__ of the class c -/
structure DMk (P : Program) (w : World) (K : Fg) (mg : Str → Option Value) (base : Heap) (CX : CXT) (k : Nat) (c : Str) (F : SF) : Prop where
  ex : ∃ C f fd ps, mg c = some (.ref C) ∧ Mk K C f ∧ FnOk P w K mg base CX k f fd ps (selfSp ⟨K, P, w, mg⟩ F) ∧ Binds K fd ps []
/-- .. the __init__ that the class c has, called by the class's name -/
structure DCls (P : Program) (w : World) (K : Fg) (mg : Str → Option Value) (base : Heap) (CX : CXT) (k : Nat) (c m : Str) (F : SF) : Prop where
  ex : ∃ C mc f fd ps, mg c = some (.ref C) ∧ ClX.CRead K C mc ∧ ClX.CVal K C mc m (.ref f) (.ref f) ∧ PySem.W.keepIn K (.ref f) = true ∧ FnOk P w K mg base CX k f fd ps (selfSp ⟨K, P, w, mg⟩ F) ∧ Binds K fd ps []
section
variable {X : Cx} {EA : XK} {a b c e o : Expr} {es : List Expr} {pos pos' p p2 p3 ap : Pos} {f g : M D} {r : M (List D)} {x y cl m : Str} {k j i : Nat} {F : SF} {CX : CXT}
noncomputable def gCallS (F : SF) (i : Nat) (r : M (List D)) : M Cell := fun env => match env[i]? with
  | some (.ob _ _ _) => (r env).bind fun p => match p.2[i]? with
    | some (.ob c ns os) => (F (.ob c ns os) p.1).map fun q => (q.1, p.2.set i q.2)
    | _ => .stuck
  | _ => .stuck
theorem callS_sem {t : TA} {σ : L2.St} {H : Hp} {Q : VK} {A H0 G0 env G} (ht : ∀ σ H Q, tAr (bx X) EA r σ H Q → t σ H Q) (S : SR (bx X) A H0 G0 env G σ H)
    (h : (gCallS F i r env).sat (fun r => ∀ v G' H', SR (bx X) A H0 G0 r.2 G' σ H' → Same G G' → Val (bx X) H0 r.2 G' σ H' r.1 v → Q v H') (XOk (bx X) A H0 G0 EA)) :
    ∃ l, σ[i]? = some (some (.ref l)) ∧ t σ H fun vs H2 => selfSp (bx X) F (.ref l :: vs) H2 Q EA := by
  unfold gCallS at h
  split at h
  · rename_i c0 n0 o0 e0
    obtain ⟨l, u, e1, h1, g1⟩ := (S.cell i _ e0).addr rfl
    have el := join_some e1
    refine ⟨l, el, ht _ _ _ ⟨A, H0, G0, env, G, S, Res.sat_mono (Res.sat_bind h) (fun q hq vs G2 H2 S2 s2 rv => ?_) fun _ z => z⟩⟩
    split at hq
    · rename_i c ns os e2
      exact self_end S2 e2 el rv (Res.sat_mono hq (fun z hz v G' H' S' s' W => hz v G' H' S' (s2.trans s') W) fun _ z => z)
    · exact hq.elim
  · exact h.elim
theorem de_callS (c : DSelf X.prog X.w X.K X.mg X.base CX k x F) (hr : Room j X.A) (hk : k ≤ j) (hx : Passes CX X EA) (hg : Gl X x) (hn : PE X (.Name y p2) (tVar i)) (ha : DA X EA es r) (hdb : (x == ("__debug__" : Str)) = false := by decide)
    (hs : starEach (.Name y p2 :: es) X.env = (false, eval (.Name y p2) X.env) :: starEach es X.env := by rfl) (hpl : (backTo pos (starEach es X.env)).any (·.1) = false := by rfl) : DE X EA (.Call (.Name x p) (.Name y p2 :: es) [] pos) (gCallS F i r) := by
  obtain ⟨f, fd, ps, Fn, hm, hkp, hb⟩ := c.ex
  refine pe_imp (pe_call (E := EA) Fn (hr.mono hk) hg hm hkp hb .nil hx (pa_cons hn ha hs) hdb hs hpl) fun σ H Q ⟨A, H0, G0, env, G, S, h1⟩ => ?_
  obtain ⟨l, el, ht⟩ := callS_sem (t := tAr (bx X) EA r) (fun _ _ _ z => z) S h1
  refine ⟨_, el, ?_⟩
  obtain ⟨A', H0', G0', env', G', S', z⟩ := ht
  refine ⟨A', H0', G0', env', G', S', Res.sat_mono z (fun q hq vs G1 H1 S1 s1 rv => ?_) fun _ z => z⟩
  show selfSp _ F ((V.ref l :: vs) ++ []) H1 Q EA
  rw [List.append_nil]
  exact hq vs G1 H1 S1 s1 rv
noncomputable def gMethS (cl m : Str) (F : SF) (i : Nat) (r : M (List D)) : M Cell := fun env => match env[i]? with
  | some (.ob c ns os) => if c = cl ∧ lookF m ns os = none then gCallS F i r env else .stuck
  | _ => .stuck
theorem methS_sem {t : TA} {C : Addr} {σ : L2.St} {H : Hp} {Q : VK} {A H0 G0 env G} (hC : X.mg cl = some (.ref C)) (ht : ∀ σ H Q, tAr (bx X) EA r σ H Q → t σ H Q) (S : SR (bx X) A H0 G0 env G σ H)
    (h : (gMethS cl m F i r env).sat (fun r => ∀ v G' H', SR (bx X) A H0 G0 r.2 G' σ H' → Same G G' → Val (bx X) H0 r.2 G' σ H' r.1 v → Q v H') (XOk (bx X) A H0 G0 EA)) : tMeth C m (selfSp (bx X) F) [] EA (tVar i) t σ H Q := by
  unfold gMethS at h
  split at h
  · rename_i c ns os e0
    split at h
    · rename_i hc
      obtain ⟨a, ca, dx, xs, ev, hm, ha, hg, rx, hl⟩ := S.cell i _ e0
      have : ca = C := by rw [hc.1] at hm; rw [show X.mg cl = some (.ref ca) from hm] at hC; cases hC; rfl
      subst this
      obtain ⟨l, el, q⟩ := callS_sem (t := t) ht S h
      rw [join_some ev] at el; cases el
      refine ⟨_, join_some ev, a, dx, _, rfl, ha, lookF_none rx hc.2, ?_⟩
      have e : (fun vs H2 => selfSp (bx X) F (V.ref a :: (vs ++ [])) H2 Q EA) = fun vs H2 => selfSp (bx X) F (V.ref a :: vs) H2 Q EA := by
        funext vs H2; rw [List.append_nil]
      rw [e]; exact q
    · exact h.elim
  · exact h.elim
theorem de_methS {pl : Sem Bool} (c : DSMet X.prog X.w X.K X.mg X.base CX k cl m F) (hr : Room j X.A) (hk : k ≤ j) (hx : Passes CX X EA) (hn : PE X (.Name y p2) (tVar i)) (ha : DA X EA (e :: es) r)
    (hst : starEach (e :: es) X.env = (false, eval e X.env) :: starEach es X.env := by rfl) (hpl : (backTo pos (starEach es X.env)).any (·.1) = false := by rfl)
    (ht : eval (.Call (.Attribute (.Name y p2) m ap) (e :: es) [] pos) X.env = (do
      let ov ← eval (.Name y p2) X.env
      standAt ap.atName
      let (f, first) ← holding [ov] (getMethod ov m pl)
      callWith pos f first (backTo pos (starEach (e :: es) X.env)) (backToKw pos (keywordEach [] X.env))) := by rfl) :
    DE X EA (.Call (.Attribute (.Name y p2) m ap) (e :: es) [] pos) (gMethS cl m F i r) := by
  obtain ⟨C, f, fd, ps, hC, hcl, hm, Fn, hb⟩ := c.ex
  refine pe_imp (pe_meth (E := EA) hn hcl hm Fn (hr.mono hk) hb .nil hx ha hst hpl ht) fun σ H Q ⟨A, H0, G0, env, G, S, h1⟩ => ?_
  exact methS_sem hC (fun _ _ _ z => z) S h1
theorem de_methS0 {pl : Sem Bool} (c : DSMet X.prog X.w X.K X.mg X.base CX k cl m F) (hr : Room j X.A) (hk : k ≤ j) (hx : Passes CX X EA) (hn : PE X (.Name y p2) (tVar i))
    (ht : eval (.Call (.Attribute (.Name y p2) m ap) [] [] pos) X.env = (do
      let ov ← eval (.Name y p2) X.env
      standAt ap.atName
      let (f, first) ← holding [ov] (getMethod ov m pl)
      callWith pos f first (backTo pos (starEach [] X.env)) (backToKw pos (keywordEach [] X.env))) := by rfl) :
    DE X EA (.Call (.Attribute (.Name y p2) m ap) [] [] pos) (gMethS cl m F i aNil) := by
  obtain ⟨C, f, fd, ps, hC, hcl, hm, Fn, hb⟩ := c.ex
  refine pe_imp (pe_meth0 (E := EA) hn hcl hm Fn (hr.mono hk) hb .nil hx ht) fun σ H Q ⟨A, H0, G0, env, G, S, h1⟩ => ?_
  exact methS_sem (t := tNil) hC (fun σ H Q ⟨A, H0, G0, env, G, S, h⟩ => h [] G H S (Same.refl _) RepL.nil) S h1
/-- C.m(x, ..), C a class of the module -/
theorem pe_clsCall {C f : Addr} {mc : Value} {fd : FuncData} {ps : List Str} {sp : Sp} {t : TA} {E : XK} {pl : Sem Bool} (rd : ClX.CRead X.K C mc) (k' : ClX.CVal X.K C mc m (.ref f) (.ref f)) (Fn : FnOk X.prog X.w X.K X.mg X.base CX k f fd ps sp) (hr : Room k X.A) (hg : Gl X cl) (hm : X.mg cl = some (.ref C))
    (hkp : PySem.W.keepIn X.K (.ref f) = true) (hb : Binds X.K fd ps []) (hx : Passes CX X E) (ha : PA X (e :: es) t) (hdb : (cl == ("__debug__" : Str)) = false := by decide)
    (hst : starEach (e :: es) X.env = (false, eval e X.env) :: starEach es X.env := by rfl) (hpl : (backTo pos (starEach es X.env)).any (·.1) = false := by rfl)
    (ht : eval (.Call (.Attribute (.Name cl p2) m ap) (e :: es) [] pos) X.env = (do
      let ov ← eval (.Name cl p2) X.env
      standAt ap.atName
      let (f, first) ← holding [ov] (getMethod ov m pl)
      callWith pos f first (backTo pos (starEach (e :: es) X.env)) (backToKw pos (keywordEach [] X.env))) := by rfl) :
    PE X (.Call (.Attribute (.Name cl p2) m ap) (e :: es) [] pos) (tCall sp [] E t) := by
  refine ⟨fun pins s σ H Q I h => ?_⟩
  refine PySem.W.methodCall_KW (pl := pl) (ld_glob I hg hm ?_ hdb) ht
  refine PySem.W.method_cls I.kIn rd.ga (ClX.getcval_ok I rd k' fun s2 I2 => ?_)
  refine PySem.W.callWith_K (h₀ := X.base) I.ok.mod.kin hkp (thn (ha.run pos pins s2 σ H _ I2 h) fun us s1 ⟨vs, H1, I1, r, q⟩ => ⟨I1.kIn, ?_⟩) hst hpl
  exact run_fn Fn hr hb .nil hx I1 r q
theorem de_clsCall {pl : Sem Bool} (c : DCls X.prog X.w X.K X.mg X.base CX k cl m F) (hr : Room j X.A) (hk : k ≤ j) (hx : Passes CX X EA) (hg : Gl X cl) (hn : PE X (.Name y p3) (tVar i)) (ha : DA X EA es r) (hdb : (cl == ("__debug__" : Str)) = false := by decide)
    (hst : starEach (.Name y p3 :: es) X.env = (false, eval (.Name y p3) X.env) :: starEach es X.env := by rfl) (hpl : (backTo pos (starEach es X.env)).any (·.1) = false := by rfl)
    (ht : eval (.Call (.Attribute (.Name cl p2) m ap) (.Name y p3 :: es) [] pos) X.env = (do
      let ov ← eval (.Name cl p2) X.env
      standAt ap.atName
      let (f, first) ← holding [ov] (getMethod ov m pl)
      callWith pos f first (backTo pos (starEach (.Name y p3 :: es) X.env)) (backToKw pos (keywordEach [] X.env))) := by rfl) :
    DE X EA (.Call (.Attribute (.Name cl p2) m ap) (.Name y p3 :: es) [] pos) (gCallS F i r) := by
  obtain ⟨C, mc, f, fd, ps, hC, rd, kv, hkp, Fn, hb⟩ := c.ex
  refine pe_imp (pe_clsCall (E := EA) (pl := pl) rd kv Fn (hr.mono hk) hg hC hkp hb hx (pa_cons hn ha hst) hdb hst hpl ht) fun σ H Q ⟨A, H0, G0, env, G, S, h1⟩ => ?_
  obtain ⟨l, el, ht⟩ := callS_sem (t := tAr (bx X) EA r) (fun _ _ _ z => z) S h1
  refine ⟨_, el, ?_⟩
  obtain ⟨A', H0', G0', env', G', S', z⟩ := ht
  refine ⟨A', H0', G0', env', G', S', Res.sat_mono z (fun q hq vs G1 H1 S1 s1 rv => ?_) fun _ z => z⟩
  show selfSp _ F ((V.ref l :: vs) ++ []) H1 Q EA
  rw [List.append_nil]
  exact hq vs G1 H1 S1 s1 rv
/-- C(..) -/
noncomputable def gMake (cl : Str) (F : SF) (r : M (List D)) : M Cell := fun env => (r env).bind fun p => (F (.ob cl [] []) p.1).bind fun q => match q.1 with
  | .fz .non => .ok (q.2, p.2)
  | _ => .stuck
theorem make_sem {σ : L2.St} {H : Hp} {Q : VK} {A H0 G0 env G} {C : Addr} {ds : List D} {vs : List V} {E : XK} (hC : X.mg cl = some (.ref C)) (S : SR (bx X) A H0 G0 env G σ H) (rv : RepL (bx X) G ds vs)
    (h : ((F (.ob cl [] []) ds).bind fun q => match q.1 with | .fz .non => Res.ok (q.2, env) | _ => .stuck).sat (fun r => ∀ v G' H', SR (bx X) A H0 G0 r.2 G' σ H' → Same G G' → Val (bx X) H0 r.2 G' σ H' r.1 v → Q v H') (XOk (bx X) A H0 G0 E)) :
    ∀ x dx, H x = none → H dx = none → dx ≠ x → selfSp (bx X) F (.ref x :: vs) (upd (upd H dx (.own x)) x (.ins C dx [])) (fun v H2 => v = .non ∧ Q (.ref x) H2) E := fun x dx hx hdx hne => by
  obtain ⟨S2, g2, h02, o2⟩ := S.laid (u := .own x) hdx
  have hx2 : upd H dx (.own x) x = none := by rw [upd_ne (Ne.symm hne)]; exact hx
  obtain ⟨S3, g3, h03, o3⟩ := S2.laid (u := .ins C dx []) hx2
  have sH : Same H (upd (upd H dx (.own x)) x (.ins C dx [])) := fun b o e => by rw [upd_ne (ne_of_none e hx), upd_ne (ne_of_none e hdx)]; exact e
  refine ⟨G, x, cl, [], [], vs, ds, rfl, S3.same, ⟨x, C, dx, [], rfl, hC, upd_same, g3, RepL.nil, rfl⟩, rv, Res.sat_mono (Res.sat_bind h) (fun r hr v G' H' hs hG hn hk hob hc W => ?_) (fun z hz ca od G' H' h0 h1 h2 h3 h4 h5 => ?_)⟩
  · split at hr
    · rename_i d ec
      have W1 := W.1
      rw [ec] at W1
      obtain ⟨v', ev, rv'⟩ := W1
      cases ev
      refine ⟨rv', ?_⟩
      have hn1 : ∀ a, G' a ≠ none → G a = none → H a = none := fun a h1 h2 => sH.free (hn a h1 h2)
      have S4 := S.step (H' := H') hs hn1 (fun b o e => hk b o (ne_of_none e hx) (sH _ _ e)) hG
      exact hr (.ref x) G' H' S4 hs ⟨hc, fun l _ e => by cases e; exact ⟨h03, o3⟩⟩
    · exact hr.elim
  · refine hz ca od G' H' h0 (S.ext.trans h1) h2 (S.newOf fun b e1 e2 => sH.free (h3 b e1 e2)) (fun a o hA e => h4 a o (ne_of_none e h03) (sH _ _ (S.keep a o hA e))) ?_
    exact S3.repX h5
theorem de_make (c : DMk X.prog X.w X.K X.mg X.base CX k cl F) (hr : Room j X.A) (hk : k + 1 ≤ j) (hx : Passes CX X EA) (hg : Gl X cl) (ha : DA X EA (e :: es) r) (hdb : (cl == ("__debug__" : Str)) = false := by decide)
    (he : starEach (e :: es) X.env = (false, eval e X.env) :: starEach es X.env := by rfl) (hpl : (backTo pos (starEach es X.env)).any (·.1) = false := by rfl) : DE X EA (.Call (.Name cl p) (e :: es) [] pos) (gMake cl F r) := by
  obtain ⟨C, f, fd, ps, hC, mk, Fn, hb⟩ := c.ex
  refine pe_imp (pe_make (E := EA) mk Fn (hr.mono hk) hg hC hb .nil hx ha hdb he hpl) fun σ H Q ⟨A, H0, G0, env, G, S, h1⟩ => ?_
  refine ⟨A, H0, G0, env, G, S, Res.sat_mono (Res.sat_bind h1) (fun q hq vs G1 H1 S1 s1 rv => ?_) fun _ z => z⟩
  intro x dx hx hdx hne
  rw [List.append_nil]
  exact make_sem hC S1 rv (Res.sat_mono hq (fun z hz v G' H' S' s' W => hz v G' H' S' (s1.trans s') W) fun _ z => z) x dx hx hdx hne
end
end DL
namespace DL
open PySem PySem.Spec PyProof.Rows L2
structure FunA (K : Fg) (x qual : Str) (st : Stmt) (f : Addr) (fd : FuncData) : Prop where
  ex : ∃ (oc : Value) (od : Option Addr) (dV kV doc pm : Value) (an : Option Addr) (cdv ct : Value) (osl : Array (Option Value)),
    fd = PySem.W.fnOf x qual (defArgs st) (defBody st) (defScope st) dV kV doc pm an cdv ct ∧ K.lookup f = some ⟨oc, od, .func fd, osl⟩ ∧ PySem.W.codeIn K cdv qual = true ∧
    (dV = .none ∨ ∃ (T : Addr) (o : Obj) (its : Array Value) (n : Nat), dV = .ref T ∧ K.lookup T = some o ∧ o.data = .seq its n)
  kp : PySem.W.keepIn K (.ref f) = true
/-- how its arguments bind, all of them given -/
noncomputable def BindA (x qual : Str) (st : Stmt) (ps : List Str) : Prop :=
  (∀ (kV doc pm : Value) (an : Option Addr) (cdv ct : Value) (us : List Value), us.length = ps.length → bindArgs (PySem.W.fnOf x qual (defArgs st) (defBody st) (defScope st) .none kV doc pm an cdv ct) ⟨us, []⟩ = pure (ps.zip us))
noncomputable def BindD (x qual : Str) (st : Stmt) (ps : List Str) (nd : Nat) : Prop :=
  (∀ (T : Addr) (kV doc pm : Value) (an : Option Addr) (cdv ct : Value) (us its : List Value), us.length = ps.length → its.length = nd →
    ∃ k, bindArgs (PySem.W.fnOf x qual (defArgs st) (defBody st) (defScope st) (.ref T) kV doc pm an cdv ct) ⟨us, []⟩ = seqItems? (.ref T) >>= k ∧ k (some its.toArray) = pure (ps.zip us))
section
variable {K : Fg} {x qual : Str} {st : Stmt} {f : Addr} {fd : FuncData} {ps : List Str}
theorem funA_mk {oc : Value} {od an : Option Addr} {osl : Array (Option Value)} {kV doc pm cdv ct : Value} (l : K.lookup f = some ⟨oc, od, .func (PySem.W.fnOf x qual (defArgs st) (defBody st) (defScope st) .none kV doc pm an cdv ct), osl⟩)
    (c : PySem.W.codeIn K cdv qual = true) (k : PySem.W.keepIn K (.ref f) = true) (b : BindA x qual st ps) : FunA K x qual st f (PySem.W.fnOf x qual (defArgs st) (defBody st) (defScope st) .none kV doc pm an cdv ct) ∧ Binds K (PySem.W.fnOf x qual (defArgs st) (defBody st) (defScope st) .none kV doc pm an cdv ct) ps [] :=
  ⟨⟨⟨oc, od, .none, kV, doc, pm, an, cdv, ct, osl, rfl, l, c, .inl rfl⟩, k⟩, .all (b kV doc pm an cdv ct)⟩
theorem funA_mkD {oc : Value} {od an : Option Addr} {osl : Array (Option Value)} {kV doc pm cdv ct : Value} {T : Addr} {oT : Value} {dT : Option Addr} {its : Array Value} {n : Nat} {sT : Array (Option Value)}
    (l : K.lookup f = some ⟨oc, od, .func (PySem.W.fnOf x qual (defArgs st) (defBody st) (defScope st) (.ref T) kV doc pm an cdv ct), osl⟩)
    (c : PySem.W.codeIn K cdv qual = true) (k : PySem.W.keepIn K (.ref f) = true) (lT : K.lookup T = some ⟨oT, dT, .seq its n, sT⟩) {nd : Nat} (hnd : its.size = nd) (b : BindD x qual st ps nd) :
    FunA K x qual st f (PySem.W.fnOf x qual (defArgs st) (defBody st) (defScope st) (.ref T) kV doc pm an cdv ct) ∧ Binds K (PySem.W.fnOf x qual (defArgs st) (defBody st) (defScope st) (.ref T) kV doc pm an cdv ct) ps [] :=
  ⟨⟨⟨oc, od, .ref T, kV, doc, pm, an, cdv, ct, osl, rfl, l, c, .inr ⟨T, _, its, n, rfl, lT, rfl⟩⟩, k⟩, fun s us X hl => by
    rw [List.append_nil] at hl ⊢
    obtain ⟨k', e1, e2⟩ := b T kV doc pm an cdv ct us its.toList hl (by simpa using hnd)
    rw [Array.toArray_toList] at e2
    refine BindsTo.of_looks fun M => ?_
    rw [e1]
    exact looks_items X lT rfl (.of_pure e2)⟩
end
section
variable {P : Program} {w : World} {K : Fg} {mg : Str → Option Value} {base : Heap} {x qual : Str} {st : Stmt} {f : Addr} {fd : FuncData} {N ps : List Str} {k n : Nat} {T : SM}
theorem fn_any {CX : CXT} {sp : Sp} (F : FunA K x qual st f fd) (S : FnScope N ps (defScope st)) (hsp : ∀ vs H Q E, sp vs H Q E → vs.length = ps.length ∧ tS ⟨K, P, w, mg⟩ E T { nx := fun _ H' => Q .non H', rt := Q } (start N vs) H)
    (hb : ∀ (cdv : Value) (A : Around) (outer : List Env) (s : Shared) (H : Hp) (E : XK), Room k (A.deeper (PyProof.Rows.envOfC qual (defScope st) s.heap.objs.size f cdv)) →
      DSs (cxOf CX P w K mg base N qual (defScope st) f cdv A outer s H E) E (defBody st) T) : FnOk P w K mg base CX (k + 1) f fd ps sp := by
  obtain ⟨oc, od, dV, kV, doc, pm, an, cdv, ct, osl, rfl, lk, hcd, _⟩ := F.ex
  exact fn_of lk hcd S (fun vs H Q E h => (hsp vs H Q E h).1) fun A outer s H vs Q E hr h => ⟨_, hb cdv A outer s H E hr, (hsp vs H Q E h).2⟩
/-- .. that only reads, raises nothing -/
theorem fn_p0 (F : FunA K x qual st f fd) (S : FnScope N ps (defScope st)) (hn : N.length = ps.length + n)
    (hb : ∀ (cdv : Value) (A : Around) (outer : List Env) (s : Shared) (H : Hp) (E : XK), Room k (A.deeper (PyProof.Rows.envOfC qual (defScope st) s.heap.objs.size f cdv)) →
      DSs (cxOf CX0 P w K mg base N qual (defScope st) f cdv A outer s H E).nox E (defBody st) T) : FnOk P w K mg base CX0 (k + 1) f fd ps (pureSp ⟨K, P, w, mg⟩ (runs ps.length n T)) :=
  fn_any F S (fun vs H Q E h => pure_body hn h) fun cdv A outer s H E hr => PSs.nox (hb cdv A outer s H E hr)
/-- .. that may raise -/
theorem fn_pX (F : FunA K x qual st f fd) (S : FnScope N ps (defScope st)) (hn : N.length = ps.length + n)
    (hb : ∀ (cdv : Value) (A : Around) (outer : List Env) (s : Shared) (H : Hp) (E : XK), Room k (A.deeper (PyProof.Rows.envOfC qual (defScope st) s.heap.objs.size f cdv)) →
      DSs (cxOf (L2.CX P w) P w K mg base N qual (defScope st) f cdv A outer s H E) E (defBody st) T) : FnOk P w K mg base (L2.CX P w) (k + 1) f fd ps (pureSp ⟨K, P, w, mg⟩ (runs ps.length n T)) :=
  fn_any F S (fun vs H Q E h => pure_body hn h) hb
/-- .. whose first argument is its own -/
theorem fn_s0 {m : Nat} (F : FunA K x qual st f fd) (S : FnScope N ps (defScope st)) (hm : ps.length = m + 1) (hn : N.length = m + 1 + n)
    (hb : ∀ (cdv : Value) (A : Around) (outer : List Env) (s : Shared) (H : Hp) (E : XK), Room k (A.deeper (PyProof.Rows.envOfC qual (defScope st) s.heap.objs.size f cdv)) →
      DSs (cxOf CX0 P w K mg base N qual (defScope st) f cdv A outer s H E).nox E (defBody st) T) : FnOk P w K mg base CX0 (k + 1) f fd ps (selfSp ⟨K, P, w, mg⟩ (runsS m n T)) :=
  fn_any F S (fun vs H Q E h => by rw [hm]; exact self_body hn h) fun cdv A outer s H E hr => PSs.nox (hb cdv A outer s H E hr)
theorem fn_sX {m : Nat} (F : FunA K x qual st f fd) (S : FnScope N ps (defScope st)) (hm : ps.length = m + 1) (hn : N.length = m + 1 + n)
    (hb : ∀ (cdv : Value) (A : Around) (outer : List Env) (s : Shared) (H : Hp) (E : XK), Room k (A.deeper (PyProof.Rows.envOfC qual (defScope st) s.heap.objs.size f cdv)) →
      DSs (cxOf (L2.CX P w) P w K mg base N qual (defScope st) f cdv A outer s H E) E (defBody st) T) : FnOk P w K mg base (L2.CX P w) (k + 1) f fd ps (selfSp ⟨K, P, w, mg⟩ (runsS m n T)) :=
  fn_any F S (fun vs H Q E h => by rw [hm]; exact self_body hn h) hb
end
/-- the promise of its __init__ -/
noncomputable def spE1 (C : Addr) (f : Str) : Sp := fun vs H Q _ => ∃ (a : Addr) (v : V), vs = [.ref a, v] ∧ H a = some (exo a C none) ∧ ∀ dx, H dx = none → dx ≠ a → Q .non (upd (upd H dx (exd dx [(f, v)])) a (exo a C (some dx)))
structure DExc (P : Program) (w : World) (K : Fg) (mg : Str → Option Value) (base : Heap) (k : Nat) (c f : Str) : Prop where
  ex : ∃ C fI fd ps, mg c = some (.ref C) ∧ OexC K C ∧ PySem.W.findIn K (.ref C) "__init__" = some (some (.ref fI)) ∧ PySem.W.typeIn K (.ref fI) = some (.type "function") ∧ FnOk P w K mg base CX0 k fI fd ps (spE1 C f) ∧ Binds K fd ps []
section
variable {X : Cx} {EA : XK} {a b c e o : Expr} {es : List Expr} {pos pos' p p1 p2 p3 ap : Pos} {f g : M D} {r : M (List D)} {x y cl m fl : Str} {k j i : Nat}
noncomputable def sRaise1 (cl fl : Str) (g : M D) : SM := fun env => (g env).bind fun p => .ex ⟨cl, [fl], [.fz p.1]⟩
theorem ds_raise1 (hc : X.calm = true) (tk : Takes X (fun cls d _ H => EA cls d H)) (c : DExc X.prog X.w X.K X.mg X.base k cl fl) (hr : Room j X.A) (hk : k + 1 ≤ j) (hg : Gl X cl) (he : DF X EA e g) (hdb : (cl == ("__debug__" : Str)) = false := by decide)
    (hs : starEach [e] X.env = (false, eval e X.env) :: starEach [] X.env := by rfl) (hpl : (backTo pos (starEach [] X.env)).any (·.1) = false := by rfl) : DS X EA (.Raise (some (.Call (.Name cl p) [e] [] pos)) none pos') (sRaise1 cl fl g) := by
  obtain ⟨C, fI, fd, ps, hC, oc, hi, ht, Fn, hb⟩ := c.ex
  refine ps_imp (ps_raise hc tk (pmk_oex oc hi ht Fn (hr.mono hk) hb .nil pass0 hg hC (da_cons he da_nil hs) hdb hs hpl)) fun Dd σ H ⟨A, H0, G0, env, G, S, h1⟩ => ?_
  refine ⟨A, H0, G0, env, G, S, ?_⟩
  unfold sRaise1 at h1
  unfold aCons aNil mPure
  cases hq : g env with
  | stuck => rw [hq] at h1; exact h1.elim
  | ex x => rw [hq] at h1; exact h1
  | ok q =>
    rw [hq] at h1
    intro vs G1 H1 S1 s1 rv
    obtain ⟨v, rfl, rd⟩ := repL1 rv
    refine ⟨by simp, fun a ha => ?_⟩
    refine ⟨a, v, rfl, upd_same, fun dx hdx hne => ⟨rfl, dx, [(fl, v)], upd_same, by rw [upd_ne hne, upd_same], ?_, ?_⟩⟩
    · rw [upd_ne hne] at hdx; exact hdx
    · have hd1 : H1 dx = none := by rw [upd_ne hne] at hdx; exact hdx
      have sH : Same H1 (upd (del (upd (upd (upd H1 a (exo a C none)) dx (exd dx [(fl, v)])) a (exo a C (some dx))) a) dx (.xd [(fl, v)])) := fun b o eb => by
        have nb : b ≠ a := ne_of_none eb ha
        have nd : b ≠ dx := ne_of_none eb hd1
        rw [upd_ne nd, del_ne nb, upd_ne nb, upd_ne nd, upd_ne nb]; exact eb
      refine h1 C (some dx) G1 _ hC S1.ext (S1.same.trans sH) S1.new (fun b o hA eb => sH _ _ (S1.keep b o hA eb)) (.inr ⟨dx, [v], rfl, upd_same, (S1.fresh0 hd1).1, ⟨v, [], rfl, ⟨v, rfl, rd⟩, (fun z => by cases z), rfl⟩, rfl⟩)
/-- P.__init__(self, ..), P an own error class without an __init__ of its own -/
theorem pe_baseInit {P : Addr} {mc : Value} {ta : TA} {pl : Sem Bool} (hg : Gl X cl) (hm : X.mg cl = some (.ref P)) (rd : ClX.CRead X.K P mc) (vV : PySem.W.findCls X.K (.ref P) mc "__init__" = some (.val (.builtin "ValueError.__init__"))) (ha : PA X (e :: es) ta) (hdb : (cl == ("__debug__" : Str)) = false := by decide)
    (hc : eval (.Call (.Attribute (.Name cl p1) "__init__" p2) (e :: es) [] pos) X.env = (do
      let ov ← eval (.Name cl p1) X.env
      standAt p2.atName
      let (f, first) ← holding [ov] (getMethod ov "__init__" pl)
      callWith pos f first (backTo pos (starEach (e :: es) X.env)) (backToKw pos (keywordEach [] X.env))) := by rfl)
    (he : starEach (e :: es) X.env = (false, eval e X.env) :: starEach es X.env := by rfl) (hpl : (backTo pos (starEach es X.env)).any (·.1) = false := by rfl) :
    PE X (.Call (.Attribute (.Name cl p1) "__init__" p2) (e :: es) [] pos) (tVeI X.K ta) := by
  refine ⟨fun pins s σ H Q I h => ?_⟩
  refine PySem.W.methodCall_KW (pl := pl) (ld_glob I hg hm ?_ hdb) hc
  refine PySem.W.method_cls I.kIn rd.ga (PySem.W.cls_value I.kIn rd.rd vV (by first | rfl | decide +kernel) ?_)
  have I0 := I.tok s.toks.succ
  refine PyProof.Rows.callWith_method1 (thn (ha.run pos pins _ σ H _ (I.tok _) h) fun us s1 ⟨vs, H1, I1, r1, a, C, ws, ev, hl, T, ea, q⟩ => ?_) he hpl
  subst ev
  cases r1 with
  | @cons _ u0 _ ur ra rw' =>
    obtain rfl : u0 = Value.ref a := ra
    have hlen : ur.length ≤ sizeLine := by
      rw [← Paired.length rw', sizeLine_eq]
      omega
    exact oinit_ok T I1 ea hlen fun s' J => ⟨.non, H1, J, rfl, q⟩
end
/-- what is left to show of such an __init__: P.__init__(self, text); self.f = v -/
theorem exc1_sem {K : Fg} {C a : Addr} {fl tx : Str} {v : V} {H : Hp} {D : Ends} (oc : OexC K C) (hno : PySem.W.findIn K (.ref C) fl = some none) (ha : H a = some (exo a C none))
    (k : ∀ dx, H dx = none → dx ≠ a → D.nx [some (.ref a), some v] (upd (upd H dx (exd dx [(fl, v)])) a (exo a C (some dx)))) :
    tVeI K (tCons (tVar 0) (tCons (tC (.str tx)) tNil)) [some (.ref a), some v] H fun _ H1 => tOst K fl (tVar 0) (tVar 1) D [some (.ref a), some v] H1 :=
  ⟨.ref a, rfl, a, C, [.str tx], rfl, by simp, oc, ha, v, rfl, .ref a, rfl, a, C, rfl, oc, hno, .inl ⟨ha, k⟩⟩
section
variable {X : Cx} {EA : XK} {a b c e o : Expr} {es : List Expr} {pos p : Pos} {r : M (List D)} {x : Str} {k j : Nat} {F : List D → Res Cell} {CX : CXT}
theorem de_callX (c : DCal X.prog X.w X.K X.mg X.base CX k x F) (hr : Room j X.A) (hk : k ≤ j) (hx : Passes CX X EA) (hg : Gl X x) (ha : DA X EA (e :: es) r) (hdb : (x == ("__debug__" : Str)) = false := by decide)
    (he : starEach (e :: es) X.env = (false, eval e X.env) :: starEach es X.env := by rfl) (hpl : (backTo pos (starEach es X.env)).any (·.1) = false := by rfl) : DE X EA (.Call (.Name x p) (e :: es) [] pos) (gCall F r) := by
  obtain ⟨f, fd, ps, Fn, hm, hkp, hb⟩ := c.ex
  refine pe_imp (pe_call (E := EA) Fn (hr.mono hk) hg hm hkp hb .nil hx ha hdb he hpl) fun σ H Q ⟨A, H0, G0, env, G, S, h1⟩ => ?_
  refine ⟨A, H0, G0, env, G, S, Res.sat_mono (Res.sat_bind h1) (fun q hq vs G1 H1 S1 s1 rv => ?_) fun _ z => z⟩
  show pureSp _ F (vs ++ []) H1 Q EA
  rw [List.append_nil]
  exact call_end S1 rv (Res.sat_mono hq (fun z hz v G' H' S' s' W => hz v G' H' S' (s1.trans s') W) fun _ z => z)
theorem pass_tk (tk : Takes X (fun cls d _ H => EA cls d H)) : Passes (L2.CX X.prog X.w) X EA := passes_call tk fun _ _ _ _ h => h
end
end DL
namespace DL
open PySem PySem.Spec PyProof.Rows L2
section
variable {X : Cx} {EA EN : XK} {a b c e o : Expr} {es : List Expr} {pos pos' p p2 ap : Pos} {f g : M D} {r : M (List D)} {x fl m : Str}
theorem df_globI {i : Int} (hm : ∃ t, X.mg x = some (.int i t)) (hg : Gl X x := by rfl) (hd : (x == ("__debug__" : Str)) = false := by decide) : DF X EA (.Name x pos) (gC (.int i)) := by
  obtain ⟨t, hm⟩ := hm
  exact df_const (v := .int i) (pe_glob hg hm ⟨t, rfl⟩ hd) fun _ => rfl
theorem df_globS {z : Str} (hm : ∃ t, X.mg x = some (.str z t)) (hg : Gl X x := by rfl) (hd : (x == ("__debug__" : Str)) = false := by decide) : DF X EA (.Name x pos) (gC (.str z)) := by
  obtain ⟨t, hm⟩ := hm
  exact df_const (v := .str z) (pe_glob hg hm ⟨t, rfl⟩ hd) fun _ => rfl
/-- a built-in class as a value -/
theorem df_ty {n : String} (hm : X.mg x = none) (hv : bootBuiltins x = some (.type n)) (hg : Gl X x := by rfl) (hn : x ≠ "__name__" := by decide) (hd : (x == ("__debug__" : Str)) = false := by decide) : DF X EA (.Name x pos) (gC (.ty n)) :=
  df_const (v := .ty n) (pe_bltn hg hm hv rfl hn hd) fun _ => rfl
/-- a list that stands in the written part, under a name: list(NAME) -/
structure KLst (B : Bx) (x : Str) (ds : List D) : Prop where
  ex : ∃ a xs, B.mg x = some (.ref a) ∧ (∀ G, SqL B.K G a xs) ∧ ∀ G, RepL B G ds xs
theorem de_listK {ds : List D} (k : KLst (bx X) x ds) (hg : Gl X "list") (hm : X.mg "list" = none) (hgx : Gl X x := by rfl) (hd : (x == ("__debug__" : Str)) = false := by decide) (he : starEach [.Name x p2] X.env = (false, eval (.Name x p2) X.env) :: starEach [] X.env := by rfl) (hpl : (backTo pos (starEach [] X.env)).any (·.1) = false := by rfl) :
    DE X EA (.Call (.Name "list" p) [.Name x p2] [] pos) (fun env => .ok (.ow ds, env)) := by
  obtain ⟨a, xs, hx, hs, hr⟩ := k.ex
  refine pe_imp (pe_callTy call_list_of hg hm (by decide +kernel) (pa_cons (pe_glob (v := .ref a) hgx hx rfl hd) pa_nil he) (by decide) (by decide) he hpl) fun σ H Q ⟨A, H0, G0, env, G, S, h1⟩ => ?_
  exact ⟨a, xs, rfl, .inl (hs H), new_list S (hr G) (Same.refl _) h1⟩
/-- a dict that stands in the written part, under a name; text keys -/
noncomputable def tabD (kvs : List (Str × D)) (z : Str) : Option D := match kvs with
  | [] => none
  | (k, d) :: r => if k = z then some d else tabD r z
noncomputable def Ents (B : Bx) : List DictEntry → List (Str × D) → Prop
  | [], kvs => kvs = []
  | e :: es, kvs => ∃ k d r, kvs = (k, d) :: r ∧ (∃ t, e.key = .str k t) ∧ (∃ v, RelV v e.val ∧ ∀ G, Rep B G d v) ∧ Ents B es r
structure KTab (B : Bx) (x : Str) (kvs : List (Str × D)) : Prop where
  ex : ∃ a es n, B.mg x = some (.ref a) ∧ KDict B.K B.w a es n ∧ Ents B es.toList kvs
theorem ents_find {B : Bx} {z : Str} : ∀ {es : List DictEntry} {kvs : List (Str × D)}, Ents B es kvs → (es.any (·.refKey) = false) ∧ ((es.find? (·.key.isStr z) = none ∧ tabD kvs z = none) ∨ ∃ e d v, es.find? (·.key.isStr z) = some e ∧ tabD kvs z = some d ∧ RelV v e.val ∧ ∀ G, Rep B G d v)
  | [], kvs, h => by have : kvs = [] := h; rw [this]; exact ⟨rfl, .inl ⟨rfl, rfl⟩⟩
  | e :: es, kvs, ⟨k, d, r, ek, ⟨t, et⟩, ⟨v, rv, hv⟩, h⟩ => by
    obtain ⟨h1, h2⟩ := ents_find (z := z) h
    subst ek
    have hr : e.refKey = false := by unfold DictEntry.refKey; rw [et]
    refine ⟨by rw [List.any_cons, hr, h1]; rfl, ?_⟩
    rw [List.find?_cons]
    unfold tabD
    have hk : e.key.isStr z = decide (k = z) := by
      rw [et]
      show Value.isStr (.str k t) z = _
      unfold Value.isStr
      by_cases q : k = z
      · simp [q]
      · simp [q]
    rw [hk]
    by_cases q : k = z
    · rw [if_pos q, decide_eq_true q]; exact .inr ⟨e, d, v, rfl, rfl, rv, hv⟩
    · rw [if_neg q, decide_eq_false q]; exact h2
theorem ktab_at {B : Bx} {kvs : List (Str × D)} {a : Addr} {es : Array DictEntry} {n : Nat} {z : Str} (hk : KDict B.K B.w a es n) (he : Ents B es.toList kvs) : (PySem.W.nsIn B.K a z = some none ∧ tabD kvs z = none) ∨ ∃ u d v, PySem.W.nsIn B.K a z = some (some u) ∧ tabD kvs z = some d ∧ RelV v u ∧ ∀ G, Rep B G d v := by
  obtain ⟨h1, h2⟩ := ents_find (z := z) he
  unfold PySem.W.nsIn
  rw [hk.at_]
  rcases h2 with ⟨q1, q2⟩ | ⟨e, d, v, q1, q2, q3, q4⟩
  · refine .inl ⟨?_, q2⟩
    simp only [q1, h1]
    rfl
  · refine .inr ⟨e.val, d, v, ?_, q2, q3, q4⟩
    simp only [q1]
noncomputable def hTab (kvs : List (Str × D)) : D → Option D
  | .str z => tabD kvs z
  | _ => none
noncomputable def hTabIn (kvs : List (Str × D)) (neg : Bool) : D → Option Bool
  | .str z => some (if neg then (tabD kvs z).isNone else (tabD kvs z).isSome)
  | _ => none
theorem df_kIx {kvs : List (Str × D)} (k : KTab (bx X) x kvs) (hb : DF X EA b g) (hg : Gl X x := by rfl) (hs : PlainIx b := by exact fun _ _ => rfl) (hd : (x == ("__debug__" : Str)) = false := by decide) : DF X EA (.Subscript (.Name x p) b pos) (mOpt (hTab kvs) g) := by
  obtain ⟨d, es, n, hx, hk, he⟩ := k.ex
  refine pe_imp (pe_ix ix_kdict (pe_glob (v := .ref d) hg hx rfl hd) hb hs) fun σ H Q ⟨A, H0, G0, env, G, S, h1⟩ => ?_
  show tF _ EA g σ H _
  refine seq1 (k := fun a e2 => (optR (hTab kvs a)).map fun d => (d, e2)) S h1 fun x G2 H2 a e2 S2 s2 r1 h2 => ?_
  obtain ⟨y, ey, h3⟩ := optR_sat (Res.sat_map h2)
  cases a <;> simp only [hTab] at ey <;> try (cases ey; done)
  rename_i z
  cases r1
  rcases ktab_at (z := z) hk he with ⟨q1, q2⟩ | ⟨u, d', v, q1, q2, q3, q4⟩
  · rw [q2] at ey; cases ey
  · rw [q2] at ey; cases ey
    exact ⟨d, z, v, rfl, rfl, ⟨es, n, u, hk.at_, hk.lit, q1, q3⟩, h3 v G2 H2 S2 s2 (q4 G2)⟩
theorem dt_kIn {kvs : List (Str × D)} (k : KTab (bx X) x kvs) (ha : DF X EA a f) (hg : Gl X x := by rfl) (hd : (x == ("__debug__" : Str)) = false := by decide) (hm : behindInMarks .In (.Name x p) = false := by first | exact nomark _ | with_unfolding_all rfl) : DT X EA (.Compare a [.In] [.Name x p] pos) (mOpt (hTabIn kvs false) f) := by
  obtain ⟨d, es, n, hx, hk, he⟩ := k.ex
  refine pt_imp (pt_cmpR (op_in_kd hk) ha (pe_glob (v := .ref d) hg hx rfl hd) hm) fun σ H Q ⟨A, H0, G0, env, G, S, h1⟩ => ?_
  refine seq1 (k := fun a e2 => (optR (hTabIn kvs false a)).map fun d => (d, e2)) S h1 fun x G2 H2 a e2 S2 s2 r1 h2 => ?_
  obtain ⟨y, ey, h3⟩ := optR_sat (Res.sat_map h2)
  cases a <;> simp only [hTabIn] at ey <;> try (cases ey; done)
  rename_i z
  cases r1; cases ey
  rcases ktab_at (z := z) hk he with ⟨q1, q2⟩ | ⟨u, d', v, q1, q2, q3, q4⟩
  · rw [q2] at h3; exact ⟨z, _, rfl, rfl, q1, _, rfl, h3 G2 H2 S2 s2⟩
  · rw [q2] at h3; exact ⟨z, _, rfl, rfl, q1, _, rfl, h3 G2 H2 S2 s2⟩
noncomputable def gSlT (f : M D) (ml mh : M (Option Int)) : M D := fun env => (f env).bind fun p => (ml p.2).bind fun q => (mh q.2).bind fun r => match p.1 with
  | .tup ds => .ok (.tup (cutD ds q.1 r.1), r.2)
  | _ => .stuck
theorem cut_all {ds : List D} {l h : Option Int} (e : HT.sIx ds.length 0 l = 0 ∧ HT.sIx ds.length ds.length h = ds.length) : cutD ds l h = ds := by
  unfold cutD
  rw [e.1, e.2, List.drop_zero, Nat.sub_zero, List.take_length]
theorem df_slT {lo hi : Option Expr} {ml mh : M (Option Int)} (ha : DF X EA a f) (hl : DP X EA lo ml) (hh : DP X EA hi mh) : DF X EA (.Subscript a (.Slice lo hi none p2) pos) (gSlT f ml mh) := by
  refine pe_imp (pe_slice sl_tupA ha hl hh) fun σ H Q ⟨A, H0, G0, env, G, S, h1⟩ => ?_
  refine seq1 (β := D × DEnv) (k := fun d e2 => (ml e2).bind fun q => (mh q.2).bind fun r => match d with | .tup ds => .ok (.tup (cutD ds q.1 r.1), r.2) | _ => .stuck) S h1 fun x G1 H1 d e1 S1 s1 r1 h2 => ?_
  refine ⟨A, H0, G0, e1, G1, S1, Res.sat_mono (Res.sat_bind h2) (fun q hq G2 H2 S2 s2 => ?_) fun _ z => z⟩
  refine ⟨A, H0, G0, q.2, G2, S2, Res.sat_mono (Res.sat_bind hq) (fun w hw G3 H3 S3 s3 => ?_) fun _ z => z⟩
  cases d with
  | tup ds =>
    have s23 := s2.trans s3
    obtain ⟨l, xs, rfl, hx, rx⟩ := r1
    have hx3 := s23.seqT hx
    have rx3 := RepL.mono s23 _ _ rx
    refine ⟨l, xs, rfl, S3.same.seqT hx3, fun e => ?_, fun e => fun pp hp => ?_⟩
    · refine hw (.ref l) G3 H3 S3 (s1.trans s23) ⟨l, xs, rfl, hx3, ?_⟩
      rw [rx.length] at e
      rw [cut_all e]; exact rx3
    · obtain ⟨S4, s4⟩ := S3.frozen (u := .tup (cutV xs q.1 w.1)) hp
      exact hw _ _ _ S4 (s1.trans (s23.trans s4)) ⟨pp, _, rfl, SqT.of upd_same, RepL.mono s4 _ _ (cut_rep rx3 _ _)⟩
  | _ => exact hw.elim
noncomputable def hCatT : D → D → Option D
  | .tup xs, .tup ys => if xs.length + ys.length ≤ sizeLine then some (.tup (xs ++ ys)) else none
  | _, _ => none
theorem df_catT (ha : DF X EA a f) (hb : DF X EA b g) : DF X EA (.BinOp a .Add b pos) (mOpt2 hCatT f g) := by
  refine pe_imp (pe_op op_catA ha hb) fun σ H Q ⟨A, H0, G0, env, G, S, h1⟩ => ?_
  refine seq2 (k := fun a b e2 => (optR (hCatT a b)).map fun d => (d, e2)) S h1 fun x y G2 H2 a b e2 S2 s2 r1 r2 h2 => ?_
  obtain ⟨d, ed, h3⟩ := optR_sat (Res.sat_map h2)
  cases a <;> cases b <;> simp only [hCatT] at ed <;> try (cases ed; done)
  rename_i xs ys
  split at ed
  · rename_i hl; cases ed
    obtain ⟨l1, v1, rfl, q1, w1⟩ := r1
    obtain ⟨l2, v2, rfl, q2, w2⟩ := r2
    refine ⟨l1, l2, v1, v2, rfl, rfl, S2.same.seqT q1, S2.same.seqT q2, by rw [w1.length, w2.length]; exact hl, fun e => ?_, fun _ e => ?_, fun _ _ pp hp => ?_⟩
    · have : xs = [] := by have := w1.length; rw [e] at this; exact List.length_eq_zero_iff.mp this.symm
      subst this
      exact h3 _ G2 H2 S2 s2 ⟨l2, v2, rfl, q2, w2⟩
    · have : ys = [] := by have := w2.length; rw [e] at this; exact List.length_eq_zero_iff.mp this.symm
      subst this
      exact h3 _ G2 H2 S2 s2 ⟨l1, v1, rfl, q1, by rw [List.append_nil]; exact w1⟩
    · obtain ⟨S4, s4⟩ := S2.frozen (u := .tup (v1 ++ v2)) hp
      exact h3 _ _ _ S4 (s2.trans s4) ⟨pp, _, rfl, SqT.of upd_same, RepL.mono s4 _ _ (w1.append w2)⟩
  · cases ed
/-- divmod -/
noncomputable def hDivmod : List D → Option D
  | [.int i, .int j] => if 0 < j ∧ j < 1073741824 then some (.tup [.int (i / j), .int (i % j)]) else none
  | _ => none
theorem df_divmod (hg : Gl X "divmod") (hm : X.mg "divmod" = none) (ha : DA X EA [a, b] r) (he : starEach [a, b] X.env = (false, eval a X.env) :: starEach [b] X.env := by rfl) (hpl : (backTo pos (starEach [b] X.env)).any (·.1) = false := by rfl) : DF X EA (.Call (.Name "divmod" p) [a, b] [] pos) (mOpt hDivmod r) := by
  refine pe_imp (pe_callB call_divmod hg hm (by decide +kernel) ha (by decide) (by decide) he hpl) fun σ H Q ⟨A, H0, G0, env, G, S, h1⟩ => ?_
  refine ⟨A, H0, G0, env, G, S, Res.sat_mono (Res.sat_bind h1) (fun q hq vs G1 H1 S1 s1 rv => ?_) fun _ z => z⟩
  obtain ⟨d, ed, h3⟩ := optR_sat (Res.sat_map hq)
  obtain ⟨ds, e2⟩ := q
  dsimp only at ed rv h3 S1
  unfold hDivmod at ed
  split at ed
  · split at ed
    · rename_i i j hj
      cases ed
      obtain ⟨v, w, rfl, r1, r2⟩ := repL2 rv
      cases r1; cases r2
      refine ⟨i, j, rfl, hj, fun pp hp => ?_⟩
      obtain ⟨S4, s4⟩ := S1.frozen (u := .tup [.int (i / j), .int (i % j)]) hp
      exact h3 _ _ _ S4 (s1.trans s4) ⟨pp, _, rfl, SqT.of upd_same, ⟨_, _, rfl, rfl, RepL.one rfl⟩⟩
    · cases ed
  · cases ed
noncomputable def tyD : D → Option String
  | .non => some "NoneType"
  | .bl _ => some "bool"
  | .int _ => some "int"
  | .str _ => some "str"
  | .tup _ => some "tuple"
  | .lst _ => some "list"
  | .dic _ _ => some "dict"
  | _ => none
theorem tyD_rep {B : Bx} {G H : Hp} {d : D} {v : V} {t : String} (sm : Same G H) (r : Rep B G d v) (h : tyD d = some t) : TyX B.K H v (.type t) := by
  cases d <;> simp only [tyD] at h <;> try (cases h; done)
  · cases h; cases r; exact .base .non
  · cases h; cases r; exact .base (.bl _)
  · cases h; cases r; exact .base (.int _)
  · cases h; cases r; exact .base (.str _)
  · cases h
    obtain ⟨l, xs, rfl, hl, rx⟩ := r
    rcases hl with (hl | ⟨o, hl⟩) | ⟨o, its, n, h1, h2, h3⟩
    · exact .base (.tup (sm _ _ hl))
    · exact .fTuple (sm _ _ hl)
    · exact .kTuple h1 h2
  · cases h
    obtain ⟨l, xs, rfl, hl, rx⟩ := r
    exact .base (.lst (sm _ _ hl))
  · cases h
    obtain ⟨l, xs, rfl, hl, rx, _⟩ := r
    exact .base (.dK (sm _ _ hl))
noncomputable def hIsi : List D → Option D
  | [d, .ty n] => (tyD d).bind fun t => (kitB t n).map D.bl
  | _ => none
theorem df_isi (hg : Gl X "isinstance") (hm : X.mg "isinstance" = none) (ha : DA X EA [a, b] r) (he : starEach [a, b] X.env = (false, eval a X.env) :: starEach [b] X.env := by rfl) (hpl : (backTo pos (starEach [b] X.env)).any (·.1) = false := by rfl) : DF X EA (.Call (.Name "isinstance" p) [a, b] [] pos) (mOpt hIsi r) :=
  df_callB call_isi hIsi (fun G H vs ds d Q sm rv h q => by
    unfold hIsi at h
    split at h
    · rename_i dd n
      cases ht : tyD dd with
      | none => rw [ht] at h; cases h
      | some t =>
        rw [ht] at h
        simp only [Option.bind_some] at h
        cases hk : kitB t n with
        | none => rw [hk] at h; cases h
        | some k =>
          rw [hk] at h; cases h
          obtain ⟨v, w, rfl, r1, r2⟩ := repL2 rv
          cases r2
          exact ⟨v, _, _, _, k, rfl, .ty n, tyD_rep sm r1 ht, kit_ty hk, q _ rfl⟩
    · cases h) hg hm (by decide +kernel) ha (by decide) (by decide) he hpl
/-- x in xs, xs a list to be read -/
noncomputable def hInL (a : D) (xs : List D) : Option Bool := match flatD a, flatDs xs with
  | some v, some vs => some (inV v vs)
  | _, _ => none
noncomputable def mInL (neg : Bool) (f : M D) (r : M (List D)) : M Bool := fun env => (f env).bind fun p => (r p.2).bind fun q => (optR (hInL p.1 q.1)).map fun d => (if neg then !d else d, q.2)
theorem inL_sem {neg : Bool} {σ : L2.St} {H : Hp} {A H0 G0 env G} {Q : VK} (S : SR (bx X) A H0 G0 env G σ H)
    (h : (mInL neg f r env).sat (fun r => ∀ G' H', SR (bx X) A H0 G0 r.2 G' σ H' → Same G G' → Q (.bl r.1) H') (XOk (bx X) A H0 G0 EA)) :
    tF (bx X) EA f σ H fun x H1 => tQ (bx X) EA r σ H1 fun y H2 => rIn X.K neg x y H2 Q := by
  refine seq1 (k := fun a e2 => (r e2).bind fun q => (optR (hInL a q.1)).map fun d => (if neg then !d else d, q.2)) S h fun x G1 H1 d e1 S1 s1 r1 h2 => ?_
  refine ⟨A, H0, G0, e1, G1, S1, Res.sat_mono (Res.sat_bind h2) (fun q hq l xs G2 H2 S2 s2 hl rx => ?_) fun _ z => z⟩
  obtain ⟨k, ek, h3⟩ := optR_sat (Res.sat_map hq)
  unfold hInL at ek
  split at ek
  · rename_i v vs e1 e2
    cases ek
    obtain ⟨z1, z2⟩ := flatD_rep (Rep.mono s2 _ _ r1) e1
    obtain ⟨z3, z4⟩ := flatDs_rep rx e2
    subst z1; subst z3
    exact ⟨l, _, rfl, .inl hl, z2, z4, h3 G2 H2 S2 (s1.trans s2)⟩
  · cases ek
theorem dt_inL (ha : DF X EA a f) (hb : DQ X EA b r) (hm : behindInMarks .In b = false := by first | exact nomark _ | with_unfolding_all rfl) : DT X EA (.Compare a [.In] [b] pos) (mInL false f r) := by
  refine pt_imp (pt_cmpR op_in_seq ha hb hm) fun σ H Q ⟨A, H0, G0, env, G, S, h1⟩ => ?_
  exact inL_sem S (Res.sat_mono h1 (fun q hq G' H' S' s' => ⟨_, rfl, hq G' H' S' s'⟩) fun _ z => z)
theorem dt_notInL (ha : DF X EA a f) (hb : DQ X EA b r) (hm : behindInMarks .NotIn b = false := by first | exact nomark _ | with_unfolding_all rfl) : DT X EA (.Compare a [.NotIn] [b] pos) (mInL true f r) := by
  refine pt_imp (pt_cmpR op_notIn_seq ha hb hm) fun σ H Q ⟨A, H0, G0, env, G, S, h1⟩ => ?_
  exact inL_sem S (Res.sat_mono h1 (fun q hq G' H' S' s' => ⟨_, rfl, hq G' H' S' s'⟩) fun _ z => z)
end
end DL
namespace DL
open PySem PySem.Spec PyProof.Rows L2
noncomputable def dispL : List (Str × M D) → M (List D)
  | [], env => .ok ([], env)
  | (_, f) :: r, env => (noEx (f env)).bind fun p => (dispL r p.2).map fun q => (p.1 :: q.1, q.2)
theorem pairs_sem {B : Bx} {EN : XK} {A : Option Addr} {H0 G0 : Hp} {σ : L2.St} : ∀ (l : List (Str × M D)) {env : DEnv} {G H : Hp} {Q : List (V × V) → Hp → Prop} {E : XD → Prop}, SR B A H0 G0 env G σ H →
    (dispL l env).sat (fun r => ∀ xs G' H', SR B A H0 G0 r.2 G' σ H' → Same G G' → RepL B G' r.1 xs → Q ((l.map fun q => V.str q.1).zip xs) H') E → tPairs (l.map fun q => (tC (.str q.1), tF B EN q.2)) σ H Q
  | [], env, G, H, Q, E, S, h => h [] G H S (Same.refl _) RepL.nil
  | (k, f) :: r, env, G, H, Q, E, S, h => by
    show tF B EN f σ H _
    refine ⟨A, H0, G0, env, G, S, Res.sat_mono (noEx_sat (Res.sat_bind h)) (fun p hp x G1 H1 S1 s1 r1 => ?_) (fun x hx => hx)⟩
    exact pairs_sem r S1 (Res.sat_mono (Res.sat_map hp) (fun q hq xs G2 H2 S2 s2 r2 => hq (x :: xs) G2 H2 S2 (s1.trans s2) (RepL.cons (Rep.mono s2 _ _ r1) r2)) fun _ z => z)
theorem mergeK_app : ∀ (more kvs : List (Key × V)), (more.map (·.1)).Nodup → (∀ p ∈ more, ∀ q ∈ kvs, q.1 ≠ p.1) → mergeK kvs more = kvs ++ more
  | [], kvs, _, _ => by simp [mergeK]
  | p :: r, kvs, nd, dj => by
    have e : putK kvs p.1 p.2 = kvs ++ [p] := by
      unfold putK
      rw [if_neg]
      intro z
      obtain ⟨q, hq, e⟩ := List.any_eq_true.mp z
      exact dj p List.mem_cons_self q hq (of_decide_eq_true e)
    have nd' := List.nodup_cons.mp (by simpa using nd : (p.1 :: r.map (·.1)).Nodup)
    show mergeK (putK kvs p.1 p.2) r = _
    rw [e, mergeK_app r (kvs ++ [p]) nd'.2 (fun a ha q hq => ?_)]
    · simp
    · rcases List.mem_append.mp hq with h | h
      · exact dj a (List.mem_cons_of_mem _ ha) q h
      · have : q = p := by simpa using h
        rw [this]
        intro z
        exact nd'.1 (by rw [z]; exact List.mem_map_of_mem ha)
theorem nodup_inr : ∀ (l : List (Str × M D)), (l.map (·.1)).Nodup → (l.map fun q => (Sum.inr q.1 : Key)).Nodup
  | [], _ => List.nodup_nil
  | q :: r, h => by
    rw [List.map_cons] at h ⊢
    have h' := List.nodup_cons.mp h
    refine List.nodup_cons.mpr ⟨fun z => ?_, nodup_inr r h'.2⟩
    obtain ⟨p, hp, e⟩ := List.mem_map.mp z
    have e' : p.1 = q.1 := Sum.inr.inj e
    exact h'.1 (by rw [← e']; exact List.mem_map_of_mem hp)
/-- the keys are written -/
noncomputable def gDisp (l : List (Str × M D)) : M Cell := fun env => (dispL l env).bind fun p => if p.1.length = l.length ∧ (l.map (·.1)).Nodup ∧ l.length ≤ 15 then .ok (.dk (l.map fun q => Sum.inr q.1) p.1, p.2) else .stuck
section
variable {X : Cx} {EA EN : XK} {a b c e o : Expr} {es : List Expr} {pos pos' p p2 ap : Pos} {f g : M D} {r : M (List D)} {x fl m : Str}
theorem de_disp {keys : List (Option Expr)} {vals : List Expr} {l : List (Str × M D)} (h : PPs X pos keys vals (l.map fun q => (tC (.str q.1), tF (bx X) EN q.2))) (hall : keys.all (·.isSome) = true) (hl : keys.length = vals.length) (h0 : keys ≠ [])
    (h15 : keys.length ≤ 15) : DE X EA (.Dict keys vals pos) (gDisp l) := by
  refine pe_imp (pe_disp h hall hl h0 h15) fun σ H Q ⟨A, H0, G0, env, G, S, h1⟩ => ?_
  intro pp hp
  obtain ⟨SD, gD, h0D, nD⟩ := S.laid (u := .dK []) hp
  have hA : A ≠ some pp := fun z => by
    obtain ⟨z1, c, ns, ds, ec⟩ := S.slf pp z
    exact nD 0 _ ec rfl z1
  have g0D : G0 pp = none := S.ext.free gD
  have SB := SD.beside (D := pp) (u := .dK []) upd_same h0D gD hA nD
  unfold gDisp at h1
  cases hd : dispL l env with
  | stuck => rw [hd] at h1; exact h1.elim
  | ex x =>
    exfalso
    have : ∀ (l : List (Str × M D)) (env : DEnv) x, dispL l env ≠ .ex x := by
      intro l
      induction l with
      | nil => intro env x z; cases z
      | cons q r ih =>
        intro env x z
        obtain ⟨k, f⟩ := q
        unfold dispL at z
        cases hq : noEx (f env) with
        | ok q => rw [hq] at z; simp only [Res.bind_ok] at z; cases hr : dispL r q.2 with
          | ok w => rw [hr] at z; cases z
          | ex y => exact ih _ _ hr
          | stuck => rw [hr] at z; cases z
        | ex y => cases hf : f env with
          | ok a => rw [hf] at hq; cases hq
          | ex a => rw [hf] at hq; cases hq
          | stuck => rw [hf] at hq; cases hq
        | stuck => rw [hq] at z; cases z
    exact this _ _ _ hd
  | ok q =>
    rw [hd] at h1
    simp only [Res.bind_ok] at h1
    split at h1
    rotate_left
    · exact h1.elim
    rename_i hc
    refine pairs_sem (E := fun _ => True) l SB ?_
    rw [hd]
    intro xs G1 H1 S1 s1 rx
    obtain ⟨S2, hH, hg, hn⟩ := S1.grown (u' := .dK ((l.map fun q => (Sum.inr q.1 : Key)).zip xs)) h0D g0D hA
    have hlx : xs.length = l.length := by rw [rx.length]; exact hc.1
    refine ⟨hH, (l.map fun q => (Sum.inr q.1 : Key)).zip xs, ?_, ?_, ?_⟩
    · rw [show (fun kv : Key × V => (kV kv.1, kv.2)) = Prod.map kV id from rfl, ← List.zip_map_left, List.map_map]
      rfl
    · rw [List.length_zip, List.length_map, hlx]; simpa using hc.2.2
    · have em : mergeK [] ((l.map fun q => (Sum.inr q.1 : Key)).zip xs) = (l.map fun q => (Sum.inr q.1 : Key)).zip xs := by
        rw [mergeK_app _ _ ?_ (fun _ _ q hq => by cases hq)]
        · rfl
        · have : ((l.map fun q => (Sum.inr q.1 : Key)).zip xs).map (·.1) = l.map fun q => (Sum.inr q.1 : Key) := by
            rw [List.map_fst_zip]; simp [hlx]
          rw [this]
          exact nodup_inr l hc.2.1
      rw [em]
      refine h1 (.ref pp) G1 _ S2 s1 ⟨⟨pp, xs, rfl, upd_same, hg, rx, by simp [hc.1]⟩, fun l' _ e => ?_⟩
      cases e
      exact ⟨h0D, hn⟩
noncomputable def lookK (k : Key) : List Key → List D → Option D
  | n :: ns, x :: xs => if n = k then some x else lookK k ns xs
  | _, _ => none
theorem lookK_rep {B : Bx} {G : Hp} {k : Key} {d : D} : ∀ {ks : List Key} {ds : List D} {xs : List V}, RepL B G ds xs → lookK k ks ds = some d → ∃ v, valV (ks.zip xs) k = some v ∧ Rep B G d v
  | [], ds, xs, r, h => by unfold lookK at h; cases h
  | n :: ns, [], xs, r, h => by unfold lookK at h; cases h
  | n :: ns, e :: ds, xs, ⟨x, xr, ex, hd, ht⟩, h => by
    unfold lookK at h
    subst ex
    show ∃ v, valV ((n, x) :: ns.zip xr) k = some v ∧ _
    by_cases hf : n = k
    · rw [if_pos hf] at h; cases h; exact ⟨x, valV_pos hf, hd⟩
    · rw [if_neg hf] at h; rw [valV_neg hf]; exact lookK_rep ht h
noncomputable def keyD : D → Option Key
  | .str z => some (.inr z)
  | .int i => some (.inl i)
  | _ => none
theorem keyD_rep {B : Bx} {G : Hp} {d : D} {k : Key} {v : V} (h : keyD d = some k) (r : Rep B G d v) : v = kV k := by
  cases d <;> simp only [keyD] at h <;> try (cases h; done)
  · cases h; exact r
  · cases h; exact r
noncomputable def hDic : D → D → Option D
  | .dic ks ds, k => (keyD k).bind fun z => lookK z ks ds
  | _, _ => none
theorem df_dic (hu : X.A.units + 1 < cLine) (ha : DF X EA a f) (hb : DF X EA b g) (hs : NoSl b := by exact fun _ _ => rfl) : DF X EA (.Subscript a b pos) (mOpt2 hDic f g) := by
  refine pe_imp (pe_dget hu ha hb hs) fun σ H Q ⟨A, H0, G0, env, G, S, h1⟩ => ?_
  refine seq2 (k := fun a b e2 => (optR (hDic a b)).map fun d => (d, e2)) S h1 fun x y G2 H2 a b e2 S2 s2 r1 r2 h2 => ?_
  obtain ⟨d, ed, h3⟩ := optR_sat (Res.sat_map h2)
  cases a <;> simp only [hDic] at ed <;> try (cases ed; done)
  rename_i ks ds
  cases hk : keyD b with
  | none => rw [hk] at ed; cases ed
  | some k =>
    rw [hk] at ed
    simp only [Option.bind_some] at ed
    obtain ⟨l, xs, rfl, hl, rx, hlen⟩ := r1
    obtain ⟨v, e1, e2⟩ := lookK_rep rx ed
    have ey := keyD_rep hk r2
    subst ey
    exact ⟨l, v, rfl, e1 ▸ DGet.k (S2.same _ _ hl), h3 v _ _ S2 s2 e2⟩
/-- of a name, what it holds then -/
noncomputable def gDicN (i : Nat) (g : M D) : M D := fun env => match env[i]? with
  | some (.dk _ _) => (g env).bind fun q => match q.2[i]? with
    | some (.dk ks ds) => (optR ((keyD q.1).bind fun z => lookK z ks ds)).map fun d => (d, q.2)
    | _ => .stuck
  | _ => .stuck
theorem df_dicN {i : Nat} (hu : X.A.units + 1 < cLine) (h : PE X (.Name x p) (tVar i)) (hb : DF X EA b g) (hs : NoSl b := by exact fun _ _ => rfl) : DF X EA (.Subscript (.Name x p) b pos) (gDicN i g) := by
  refine pe_imp (pe_dget hu h hb hs) fun σ H Q ⟨A, H0, G0, env, G, S, h1⟩ => ?_
  unfold gDicN at h1
  split at h1
  rotate_left
  · exact h1.elim
  rename_i k0 d0 e0
  obtain ⟨l, u, el, _, _⟩ := (S.cell i _ e0).addr rfl
  have el := join_some el
  refine ⟨_, el, A, H0, G0, env, G, S, Res.sat_mono (Res.sat_bind h1) (fun q hq y G2 H2 S2 s2 r2 => ?_) fun _ z => z⟩
  split at hq
  rotate_left
  · exact hq.elim
  rename_i ks ds e2
  obtain ⟨d, ed, h3⟩ := optR_sat (Res.sat_map hq)
  obtain ⟨l', xs, el', hl, hg, rx, hlen⟩ := S2.cell i _ e2
  rw [join_of el] at el'; cases el'
  cases hk : keyD q.1 with
  | none => rw [hk] at ed; cases ed
  | some k =>
    rw [hk] at ed
    simp only [Option.bind_some] at ed
    obtain ⟨v, e1, e3⟩ := lookK_rep rx ed
    have ey := keyD_rep hk r2
    subst ey
    exact ⟨l, v, rfl, e1 ▸ DGet.k hl, h3 v _ _ S2 s2 e3⟩
noncomputable def ixV (v : V) : List V → Option Nat
  | [] => none
  | z :: zs => if eqV z v = true then some 0 else (ixV v zs).map (· + 1)
theorem ixV_spec {v : V} : ∀ {zs : List V} {j : Nat}, ixV v zs = some j → (∃ z, zs[j]? = some z ∧ eqV z v = true) ∧ ∀ (m : Nat) (z' : V), m < j → zs[m]? = some z' → eqV z' v = false
  | [], j, h => by cases h
  | z :: zs, j, h => by
    unfold ixV at h
    by_cases hz : eqV z v = true
    · rw [if_pos hz] at h; cases h
      exact ⟨⟨z, rfl, hz⟩, fun m z' hm => absurd hm (Nat.not_lt_zero _)⟩
    · rw [if_neg hz] at h
      cases q : ixV v zs with
      | none => rw [q] at h; cases h
      | some k =>
        rw [q] at h; cases h
        obtain ⟨⟨w, h1, h2⟩, h3⟩ := ixV_spec q
        refine ⟨⟨w, by simpa using h1, h2⟩, fun m z' hm e => ?_⟩
        cases m with
        | zero => simp at e; subst e; simpa using hz
        | succ m =>
          have hm' : m + 1 < k + 1 := hm
          exact h3 m z' (by omega) (by simpa using e)
noncomputable def hIndex : D → List D → Option D
  | .lst ds, [d] => match flatD d, flatDs ds with
    | some v, some vs => (ixV v vs).map fun j => .int (j : Nat)
    | _, _ => none
  | _, _ => none
noncomputable def isLstD : D → Bool
  | .lst _ => true
  | _ => false
theorem df_index {apos cpos : Pos} (ho : DF X EA o f) (ha : DA X EA [e] r) (hbase : attributeBase o "index" X.env (eval o X.env) = eval o X.env := by rfl)
    (hfew : ((backTo cpos (starEach [e] X.env)).all (fun x => !x.1) && (backToKw cpos (keywordEach [] X.env)).all (fun x => x.1.isSome) && decide ([e].length + ([] : List Keyword).length + (if ([] : List Keyword).isEmpty then 0 else 1) < 30)) = true := by rfl)
    (hline : (apos.endLine == cpos.line) = true := by rfl) (hs : starEach [e] X.env = (false, eval e X.env) :: starEach [] X.env := by rfl) (hplain : (backTo cpos (starEach [] X.env)).any (·.1) = false := by rfl) :
    DF X EA (.Call (.Attribute o "index" apos) [e] [] cpos) (gBM isLstD hIndex f r) :=
  df_bm (ty := isLstD) PySem.F.plainAttrs_list PySem.F.slot_list_index PySem.F.type_list_index mt_index hIndex
    (fun G H d x sm r h => by
      cases d <;> simp only [isLstD] at h <;> try (cases h; done)
      obtain ⟨l, xs, rfl, hl, _⟩ := r
      exact .inl ⟨rfl, xs, SqL.of (sm _ _ hl)⟩)
    (fun G H d x ds vs y Q sm r rv h q => by
      unfold hIndex at h
      split at h
      rotate_left
      · cases h
      rename_i ds0 d0
      split at h
      rotate_left
      · cases h
      rename_i v0 vs0 e1 e2
      cases hj : ixV v0 vs0 with
      | none => rw [hj] at h; cases h
      | some j =>
        rw [hj] at h; cases h
        obtain ⟨l, xs, rfl, hl, rx⟩ := r
        obtain ⟨w, rfl, rw'⟩ := repL1 rv
        obtain ⟨z1, z2⟩ := flatD_rep rw' e1
        obtain ⟨z3, z4⟩ := flatDs_rep rx e2
        subst z1; subst z3
        obtain ⟨⟨z, h1, h2⟩, h3⟩ := ixV_spec hj
        exact ⟨l, _, _, j, z, rfl, rfl, SqL.of (sm _ _ hl), z2, z4, h1, h2, h3, q _ rfl⟩)
    ho ha hbase hfew hline hs hplain
mutual
noncomputable def pyD : D → Option PyData
  | .non => some .none
  | .bl b => some (.bool b)
  | .int i => some (.int i)
  | .str z => some (.str z)
  | .tup ds => (pyDs ds).map .tuple
  | .lst ds => (pyDs ds).map .list
  | .rol ns => some (.list (ns.map .int))
  | _ => none
noncomputable def pyDs : List D → Option (List PyData)
  | [] => some []
  | d :: ds => match pyD d, pyDs ds with
    | some p, some q => some (p :: q)
    | _, _ => none
end
theorem DpAll.ints {K : Fg} {H : Hp} : ∀ ns : List Int, DpAll K H (ns.map V.int) (ns.map PyData.int)
  | [] => .nil
  | n :: ns => .cons (.int n) (DpAll.ints ns)
mutual
theorem pyD_rep {B : Bx} {G H : Hp} (sm : Same G H) : ∀ (d : D) {v : V} {p : PyData}, Rep B G d v → pyD d = some p → Dp B.K H v p
  | .non, v, p, r, h => by simp only [pyD] at h; cases h; cases r; exact .non
  | .bl b, v, p, r, h => by simp only [pyD] at h; cases h; cases r; exact .bl b
  | .int i, v, p, r, h => by simp only [pyD] at h; cases h; cases r; exact .int i
  | .str z, v, p, r, h => by simp only [pyD] at h; cases h; cases r; exact .str z
  | .tup ds, v, p, r, h => by
    simp only [pyD] at h
    cases hq : pyDs ds with
    | none => rw [hq] at h; cases h
    | some ps =>
      rw [hq] at h; cases h
      obtain ⟨a, xs, rfl, ha, rx⟩ := r
      exact .tup (sm.seqT ha) (pyDs_rep sm ds rx hq)
  | .lst ds, v, p, r, h => by
    simp only [pyD] at h
    cases hq : pyDs ds with
    | none => rw [hq] at h; cases h
    | some ps =>
      rw [hq] at h; cases h
      obtain ⟨a, xs, rfl, ha, rx⟩ := r
      exact .lst (SqL.of (sm _ _ ha)) (pyDs_rep sm ds rx hq)
  | .rol ns, v, p, r, h => by
    simp only [pyD] at h; cases h
    obtain ⟨a, rfl, ha⟩ := r
    exact .lst (sm.seq ha) (DpAll.ints ns)
  | .obj _ _ _, v, p, r, h => by simp only [pyD] at h; cases h
  | .dic _ _, v, p, r, h => by simp only [pyD] at h; cases h
  | .ty _, v, p, r, h => by simp only [pyD] at h; cases h
  | .adr _, v, p, r, h => by simp only [pyD] at h; cases h
theorem pyDs_rep {B : Bx} {G H : Hp} (sm : Same G H) : ∀ (ds : List D) {xs : List V} {ps : List PyData}, RepL B G ds xs → pyDs ds = some ps → DpAll B.K H xs ps
  | [], xs, ps, r, h => by
    simp only [pyDs] at h; cases h
    have : xs = [] := r
    rw [this]; exact .nil
  | d :: ds, xs, ps, ⟨x, xr, ex, hd, ht⟩, h => by
    simp only [pyDs] at h
    split at h
    · rename_i p q e1 e2
      cases h
      rw [ex]
      exact .cons (pyD_rep sm d hd e1) (pyDs_rep sm ds ht e2)
    · cases h
end
noncomputable def hEqD (a b : D) : Option Bool := match pyD a, pyD b with
  | some p, some q => if SeqAt.shaped p = true ∧ SeqAt.shaped q = true then some (PyData.eqv p q) else none
  | _, _ => none
noncomputable def hNeD (a b : D) : Option Bool := (hEqD a b).map (!·)
theorem cd_neD (hu : X.A.units + 64 < cLine) : CmpD X .NotEq hNeD := ⟨_, op_neD hu, fun G H x y a b k Q sm r1 r2 h q => by
  unfold hNeD at h
  cases hq : hEqD a b with
  | none => rw [hq] at h; cases h
  | some k' =>
    rw [hq] at h; cases h
    unfold hEqD at hq
    split at hq
    · rename_i p q' e1 e2
      split at hq
      · rename_i hs; cases hq
        exact ⟨p, q', pyD_rep sm a r1 e1, pyD_rep sm b r2 e2, hs.1, hs.2, q⟩
      · cases hq
    · cases hq⟩
end
end DL
namespace DL
open PySem PySem.Spec PyProof.Rows L2
/-- the signs of two texts, side by side, in new pairs -/
noncomputable def ItzS (x y : Str) : It :=
  ⟨fun i _ => i < min x.cps.size y.cps.size, fun i H v H' => ∃ (T : Addr) (c d : Nat), v = .ref T ∧ H T = none ∧ H' = upd H T (.tup [.str ⟨#[c]⟩, .str ⟨#[d]⟩]) ∧ x.cps[i]? = some c ∧ y.cps[i]? = some d,
    fun i _ => min x.cps.size y.cps.size ≤ i⟩
theorem turn_zipS {P : Program} {w : World} {K : Fg} {elts : List Expr} {kk : Nat} {tpos : Pos} {x y : Str} {t u : Tok} {z TI TO i1 i2 : Addr} (S : ZipSep2 z TI TO i1 i2 [i1] [i2]) :
    Turn P w K (.Tuple elts kk tpos) (ItzS x y) [z, TI, TO, i1, i2] z
      (fun i h => i ≤ min x.cps.size y.cps.size ∧ IsZip h z TI TO .none ∧ IsTupOf2 h TI (.ref i1) (.ref i2) ∧ (∃ a b, IsTupOf2 h TO a b) ∧ h.IsStrIter i1 (strIterType x) x t i ∧ h.IsStrIter i2 (strIterType y) y u i) where
  mem := by simp
  obj := fun i h st c hc => by
    obtain ⟨_, hz, hTI, ⟨a, b, hTO⟩, ⟨o1, e1, _, d1⟩, ⟨o2, e2, _, d2⟩⟩ := st
    rcases (by simpa using hc : c = z ∨ c = TI ∨ c = TO ∨ c = i1 ∨ c = i2) with q | q | q | q | q <;> rw [q]
    · exact ⟨_, hz, fun v q => nomatch q⟩
    · exact ⟨_, hTI, fun v q => nomatch q⟩
    · exact ⟨_, hTO, fun v q => nomatch q⟩
    · exact ⟨o1, e1, fun v q => by rw [d1] at q; cases q⟩
    · exact ⟨o2, e2, fun v q => by rw [d2] at q; cases q⟩
  keep := fun i h h' st k => by
    obtain ⟨hi, hz, hTI, ⟨a, b, hTO⟩, ⟨o1, e1, r1⟩, ⟨o2, e2, r2⟩⟩ := st
    exact ⟨hi, k z (by simp) _ hz, k TI (by simp) _ hTI, ⟨a, b, k TO (by simp) _ hTO⟩, ⟨o1, k i1 (by simp) _ e1, r1⟩, ⟨o2, k i2 (by simp) _ e2, r2⟩⟩
  item := by
    intro X hP hw hK hc i pins s σ H E I hf st hg
    subst hP hw hK
    obtain ⟨hi, hz, hTI, ⟨a0, b0, hTO⟩, h1, h2⟩ := st
    have hg' : i < min x.cps.size y.cps.size := hg
    have lt1 : i < x.cps.size := Nat.lt_of_lt_of_le hg' (Nat.min_le_left _ _)
    have lt2 : i < y.cps.size := Nat.lt_of_lt_of_le hg' (Nat.min_le_right _ _)
    have hh : X.A.in1.handled = none := I.ok.hd hc
    have hzl : z < s.heap.objs.size := Heap.lt_size hz
    have D1 : Draws X.prog X.w X.A.in1 i1 [i1] x.cps.size _ _ := Draws.text hh i1 x t
    have D2 : Draws X.prog X.w X.A.in1 i2 [i2] y.cps.size _ _ := Draws.text hh i2 y u
    refine wpAny_pyNext_zipD2_item S D1 D2 hz hTI hTO h1 h2 lt1 lt2 fun x1 x2 h' tk p1 p2 z' TO' h1' h2' hT hsz hk => ?_
    obtain ⟨c, t1, ec, rfl⟩ := p1
    obtain ⟨d, t2, ed, rfl⟩ := p2
    refine ⟨_, rfl, wpAny_letOwnedTupleGo_zip (s := { s with heap := h', toks := tk }) z' fun h'' z'' sb => ?_⟩
    have new : ObjOk X.prog X.w (upd H s.heap.objs.size (.tup [.str ⟨#[c]⟩, .str ⟨#[d]⟩])) h'' s.heap.objs.size (.tup [.str ⟨#[c]⟩, .str ⟨#[d]⟩]) :=
      ⟨by show 2 ≤ sizeLine; decide, [.str ⟨#[c]⟩ t1, .str ⟨#[d]⟩ t2], .cons ⟨_, rfl⟩ (.cons ⟨_, rfl⟩ .nil), ⟨_, (sb.2 _ (Nat.ne_of_gt hzl)).trans hT, rfl, _, rfl⟩⟩
    have I1 : Inv X pins σ (upd H s.heap.objs.size (.tup [.str ⟨#[c]⟩, .str ⟨#[d]⟩])) { s with heap := h'', toks := tk } :=
      I.turnedNew (t' := tk) (ch := [z, TI, TO, i1, i2]) (fun b o hb q => by
        have nb : b ≠ z ∧ b ≠ TI ∧ b ≠ TO ∧ b ≠ i1 ∧ b ≠ i2 := by simpa using hb
        exact (sb.2 b nb.1).trans (hk b o nb.1 nb.2.2.1 nb.2.2.2.1 nb.2.2.2.2 q)) hf (Nat.le_refl _) new
    refine ⟨.ref s.heap.objs.size, _, I1, rfl, ⟨_, c, d, rfl, I.hok.fresh (Nat.le_refl _), rfl, ec, ed⟩, ⟨hg', z'', ?_, ⟨_, _, (sb.2 _ S.TOz).trans TO'⟩, ?_, ?_⟩, fun b hb => ?_⟩
    · exact (sb.2 _ S.TIz).trans (hk _ _ S.TIz S.TITO S.TIi1 S.TIi2 hTI)
    · obtain ⟨o1, e1, r1⟩ := h1'
      exact ⟨o1, (sb.2 _ (Ne.symm S.zi1)).trans e1, r1⟩
    · obtain ⟨o2, e2, r2⟩ := h2'
      exact ⟨o2, (sb.2 _ (Ne.symm S.zi2)).trans e2, r2⟩
    · have hlt : b < s.heap.objs.size := by
        rcases (by simpa using hb : b = z ∨ b = TI ∨ b = TO ∨ b = i1 ∨ b = i2) with q | q | q | q | q <;> rw [q]
        · exact hzl
        · exact Heap.lt_size hTI
        · exact Heap.lt_size hTO
        · obtain ⟨_, e1, _⟩ := h1; exact Heap.lt_size e1
        · obtain ⟨_, e2, _⟩ := h2; exact Heap.lt_size e2
      rw [upd_ne (Nat.ne_of_lt hlt)]
      exact (hf b hb).1
  done := by
    intro X hP hw hK hc i pins s σ H E I hf st hg
    subst hP hw hK
    obtain ⟨hi, hz, hTI, ⟨a0, b0, hTO⟩, h1, h2⟩ := st
    have hg' : min x.cps.size y.cps.size ≤ i := hg
    have ei : i = min x.cps.size y.cps.size := Nat.le_antisymm hi hg'
    have hh : X.A.in1.handled = none := I.ok.hd hc
    have D1 : Draws X.prog X.w X.A.in1 i1 [i1] x.cps.size _ _ := Draws.text hh i1 x t
    have D2 : Draws X.prog X.w X.A.in1 i2 [i2] y.cps.size _ _ := Draws.text hh i2 y u
    refine wpAny_pyNext_zipD2_end S D1 D2 hz hTI hTO h1 h2 (by omega) (by omega) (by omega) fun h' tk hk => ⟨rfl, I.turnedL (t' := tk) (ch := [z, TI, TO, i1, i2]) (fun b o hb q => ?_) hf⟩
    have nb : b ≠ z ∧ b ≠ TI ∧ b ≠ TO ∧ b ≠ i1 ∧ b ≠ i2 := by simpa using hb
    exact hk b o nb.1 nb.2.2.1 nb.2.2.2.1 nb.2.2.2.2 q
  self := fun A i s Q E st h => wpAny_pyIter_zip st.2.1 h
noncomputable def iZipS (ta : TA) : TI := fun σ H R => ta σ H fun vs H1 => ∃ x y, vs = [.str x, .str y] ∧ R (ItzS x y) H1
section
variable {X : Cx} {EA : XK} {a b : Expr} {p pos tpos : Pos} {elts : List Expr} {kk : Nat} {ta : TA} {r : M (List D)}
theorem pi_zipS (hg : Gl X "zip") (hm : X.mg "zip" = none) (ha : PA X [a, b] ta)
    (hs : starEach [a, b] X.env = (false, eval a X.env) :: starEach [b] X.env := by rfl) (hpl : (backTo pos (starEach [b] X.env)).any (·.1) = false := by rfl) :
    PI X (.Tuple elts kk tpos) (.Call (.Name "zip" p) [a, b] [] pos) (iZipS ta) := by
  refine ⟨fun pins s σ H R I h => ?_⟩
  refine Call_ (ld_blt I hg hm PyProof.Rows.boot_zip (PyProof.Rows.callWith_type1 (thn (ha.run pos pins s σ H _ I h) fun us s1 ⟨vs, H1, I1, r1, x, y, ex, q⟩ => ?_) hs hpl))
  subst ex
  obtain ⟨u1, u2, rfl, ⟨t, rfl⟩, ⟨u, rfl⟩⟩ := vals2 r1
  refine zip_begins2 (begins_text x t) (begins_text y u) trivial trivial fun h' hz hTI hTO g1 g2 hsz hk => wpAny_pyIter_zip hz ?_
  have I2 : Inv X pins σ H1 { s1 with heap := h' } := I1.kept (t' := s1.toks) hk
  refine ⟨s1.heap.objs.size + 4, [s1.heap.objs.size + 4, s1.heap.objs.size + 2, s1.heap.objs.size + 3, s1.heap.objs.size, s1.heap.objs.size + 1], _, _, H1, rfl, I2, turn_zipS (x := x) (y := y) (t := t) (u := u) (zip_sep2 (fp1 := []) (fp2 := []) (by simp) (by simp)),
    ⟨Nat.zero_le _, hz, hTI, ⟨_, _, hTO⟩, ⟨_, g1, rfl, rfl⟩, ⟨_, g2, rfl, rfl⟩⟩, fun c hc => ?_, q⟩
  have hle : s1.heap.objs.size ≤ c := by
    rcases (by simpa using hc : c = s1.heap.objs.size + 4 ∨ c = s1.heap.objs.size + 2 ∨ c = s1.heap.objs.size + 3 ∨ c = s1.heap.objs.size ∨ c = s1.heap.objs.size + 1) with q | q | q | q | q <;> rw [q]
    · exact Nat.le_add_right _ _
    · exact Nat.le_add_right _ _
    · exact Nat.le_add_right _ _
    · exact Nat.le_refl _
    · exact Nat.le_add_right _ _
  exact I1.fpOk hle (I1.hok.fresh hle)
/-- .. of data -/
noncomputable def zipT (x y : Str) : List D := (x.cps.toList.zip y.cps.toList).map fun p => .tup [.str (sgn p.1), .str (sgn p.2)]
noncomputable def hZipS : List D → Option (List D)
  | [.str x, .str y] => some (zipT x y)
  | _ => none
theorem zipT_get {x y : Str} {i : Nat} {d : D} (h : (zipT x y)[i]? = some d) : ∃ c e, x.cps[i]? = some c ∧ y.cps[i]? = some e ∧ d = .tup [.str (sgn c), .str (sgn e)] := by
  unfold zipT at h
  rw [List.getElem?_map] at h
  cases q : (x.cps.toList.zip y.cps.toList)[i]? with
  | none => rw [q] at h; cases h
  | some p =>
    rw [q] at h
    obtain ⟨h1, h2⟩ := List.getElem?_zip_eq_some.mp q
    refine ⟨p.1, p.2, by simpa using h1, by simpa using h2, ?_⟩
    simpa using h.symm
theorem di_zipS (hg : Gl X "zip") (hm : X.mg "zip" = none) (ha : DA X EA [a, b] r)
    (hs : starEach [a, b] X.env = (false, eval a X.env) :: starEach [b] X.env := by rfl) (hpl : (backTo pos (starEach [b] X.env)).any (·.1) = false := by rfl) :
    DI X EA (.Tuple elts kk tpos) (.Call (.Name "zip" p) [a, b] [] pos) (mOpt hZipS r) := by
  refine pi_imp (pi_zipS hg hm ha hs hpl) fun σ H R ⟨A, H0, G0, env, G, S, h1⟩ => ?_
  refine ⟨A, H0, G0, env, G, S, Res.sat_mono (Res.sat_bind h1) (fun p hp vs G1 H1 S1 s1 r1 => ?_) fun _ z => z⟩
  obtain ⟨d, ed, h3⟩ := optR_sat (Res.sat_map hp)
  unfold hZipS at ed
  split at ed
  · rename_i x y e1
    rw [e1] at r1
    cases ed
    obtain ⟨v, w, rfl, rv, rw'⟩ := repL2 r1
    cases rv; cases rw'
    have hl : (zipT x y).length = min x.cps.size y.cps.size := by simp [zipT]
    refine ⟨x, y, rfl, h3 _ G1 H1 S1 s1 fun i Hc sc => ⟨fun hi => by rw [hl] at hi; exact hi, fun hi => by rw [hl] at hi; exact hi, fun v H' d ed y' => .inr ?_⟩⟩
    obtain ⟨T, c, e, rfl, hT, rfl, ec, ee⟩ := y'
    obtain ⟨c', e', q1, q2, q3⟩ := zipT_get ed
    rw [ec] at q1; rw [ee] at q2; cases q1; cases q2
    exact ⟨T, _, _, rfl, hT, rfl, q3, ⟨_, _, rfl, rfl, RepL.one rfl⟩⟩
  · cases ed
end
end DL
namespace DL
open PySem PySem.Spec PyProof.Rows L2
/-- isinstance of the error that the suite holds: a class, or a tuple of classes that was just laid -/
noncomputable def rIsX (K : Fg) (a : Addr) (cls : Value) (d : Option Addr) : List V → Hp → VK → Prop := fun xs H Q => ∃ (D dd : Addr) (fs : List (Str × V)) (b : Bool), cls = .ref D ∧ ExcC K D ∧ d = some dd ∧ H dd = some (.xd fs) ∧ Q (.bl b) H ∧
  ((∃ c cv, xs = [.ref a, c] ∧ ClsV c cv ∧ PySem.W.kitOne K (.ref D) cv = some b) ∨ ∃ (tp : Addr) (cs : List V) (us : List Value), xs = [.ref a, .ref tp] ∧ H tp = some (.tup cs) ∧ Paired ClsV cs us ∧ PySem.W.kitAny K (.ref D) us = some b)
theorem call_isX {X : Cx} {a : Addr} {cls : Value} {d : Option Addr} {oe : Obj} {pn : List (Addr × Obj)} (hz : Zc cls d oe) (hf : ∃ vs, oe.data = .fields vs) : CallR (X.suite a ((a, oe) :: pn)) (.builtin "isinstance") (rIsX X.K a cls d) := by
  intro pins s σ H xs us Q I r h
  obtain ⟨D, dd, fs, b, rfl, C, rfl, hx, q, h⟩ := h
  obtain ⟨hget, _⟩ := I.pin (a, oe) (List.mem_append.mpr (.inl List.mem_cons_self))
  obtain ⟨vs, hv⟩ := hf
  obtain ⟨mA, hns, hr⟩ := (show ObjOk X.prog X.w H s.heap dd (.xd fs) from I.hok dd _ hx)
  obtain ⟨od, ho, _⟩ := lookIn_ns hns
  have J : PySem.W.InstAt s.heap a oe D (some od) := by
    obtain ⟨oc, odd, oda, osl⟩ := oe
    obtain ⟨h1, h2⟩ := hz
    dsimp only at h1 h2 hv
    subst h1 h2 hv
    exact ⟨hget, rfl, rfl, ho⟩
  have hcl : (PySem.W.clsIn X.K D).isSome = true := by obtain ⟨cd, hc, _⟩ := PySem.W.any_some C.hd; rw [hc]; rfl
  have Z : PySem.W.KitX X.K (.ref a) (.ref D) (fun h => PySem.W.InstAt h a oe D (some od)) := PySem.W.kitx_exc hcl C.hg C.hk C.hs C.ha C.hn C.ht C.hm
  rcases h with ⟨c, cv, rfl, kc, e⟩ | ⟨tp, cs, ws, rfl, hT, kc, e⟩
  · obtain ⟨u1, u2, rfl, r1, r2⟩ := vals2 r
    cases r1
    have e2 := kc.eq r2
    subst e2
    exact PySem.W.kia_one Z I.kIn J e (fun z => nomatch z) fun tk => ⟨.bl b, H, I.tok tk, rfl, q⟩
  · obtain ⟨u1, u2, rfl, r1, r2⟩ := vals2 r
    cases r1
    cases (show u2 = Value.ref tp from r2)
    obtain ⟨_, its, rv, o, h1, h2, n, h3⟩ := (show ObjOk X.prog X.w H s.heap tp (.tup cs) from I.hok tp _ hT)
    have e3 := ClsV.all kc rv
    subst e3
    obtain ⟨oc, od', dt, sl⟩ := o
    simp only at h2 h3
    subst h2 h3
    exact PySem.W.kia_tup Z I.kIn J h1 e (fun z => nomatch z) fun tk => ⟨.bl b, H, I.tok tk, rfl, q⟩
/-- a def that may be called while an error is handled, whatever the error -/
structure FnW (P : Program) (w : World) (K : Fg) (mg : Str → Option Value) (base : Heap) (k : Nat) (f : Addr) (fd : FuncData) (ps : List Str) (sp : Sp) : Prop where
  len : ∀ vs H Q E, sp vs H Q E → vs.length = ps.length
  run : ∀ (A : Around) (outer : List Env) (s : Shared) (H : Hp) (args : Args) (us : List Value) (vs : List V) (Q : VK) (E : XK) (p : Addr × Obj), L2H.RoomH k A → L2H.PinOk outer H s p → Env0 P w K mg base A outer s H → BindsTo s fd args (ps.zip us) → Vals vs us → sp vs H Q E →
    codeAny (model P w) A (.call (.ref f) args) (CR CX0 outer P w H s Q E) s
theorem fn_ofW {P : Program} {w : World} {K : Fg} {mg : Str → Option Value} {base : Heap} {k : Nat} {x qual : Str} {st : Stmt} {f : Addr} {fd : FuncData} {N ps : List Str} {sp : Sp} (F : FunA K x qual st f fd) (S : FnScope N ps (defScope st)) (len : ∀ vs H Q E, sp vs H Q E → vs.length = ps.length)
    (hbody : ∀ (cdv : Value) (A : Around) (outer : List Env) (s : Shared) (H : Hp) (vs : List V) (Q : VK) (E : XK) (p : Addr × Obj), L2H.RoomH k (A.deeper (envOfC qual (defScope st) s.heap.objs.size f cdv)) → sp vs H Q E →
      ∃ t, PSs (L2H.cxH CX0 P w K mg base N qual (defScope st) f cdv A outer s H E p) (defBody st) t ∧ t { nx := fun _ H' => Q .non H', rt := Q } (L2.start N vs) H) : FnW P w K mg base (k + 1) f fd ps sp := by
  obtain ⟨oc, od, dV, kV, doc, pm, an, cdv, ct, osl, rfl, lk, hcd, _⟩ := F.ex
  refine ⟨len, fun A outer s H args us vs Q E p hr hpin e0 hb r hsp => ?_⟩
  have hl := len _ _ _ _ hsp
  have kp : ∀ b o, base.get? b = some o → s.heap.get? b = some o := fun b o e => (e0.bs b o e).1
  have KX : K.In s.heap := e0.mod.kin.keeps kp
  have par : ∀ y ∈ ps.zip us, (defScope st).names.lookup y.1 = some .local ∨ ((defScope st).names.lookup y.1 = some .cell ∧ ((cellsFrom (s.heap.objs.size + 1) (defScope st).names []).lookup y.1).isSome = true) := by
    rintro ⟨n, v⟩ hy
    rcases S.par n (List.of_mem_zip hy).1 with z | z
    · exact .inl z
    · exact .inr ⟨z, PySem.W.cellsFrom_some _ _ _ (.inl z)⟩
  refine codeAny_call_function hr.depth (KX _ _ lk) rfl S.co S.gen rfl (PySem.W.codeRec_of KX hcd) (hb _ _ _ _ (wpAny_newFunctionEnv_cells S.kind par fun env he s1 ic => ?_))
  subst he
  obtain ⟨t, ht, hq⟩ := hbody cdv A outer s H vs Q E p (hr.deeper _) hsp
  have I := L2H.inv_startH (CX := CX0) (P := P) (w := w) (K := K) (mg := mg) (base := base) (A := A) (E := E) S hpin e0 hl r ic
  refine ⟨(e0.mod.nolimit.keeps kp).keeps ic.toInCall.keep, codeAny_func (wpAny_mono (ht.run [] s1 _ H _ I hq) (fun fl s' z => ?_) fun _ _ z => z)⟩
  cases fl with
  | ret u => obtain ⟨v, _, H', J, rv, q⟩ := z; exact ⟨v, H', J.os, J.bare, J.base, J.hok, rv, q⟩
  | next => obtain ⟨_, H', J, q⟩ := z; exact ⟨V.non, H', J.os, J.bare, J.base, J.hok, rfl, q⟩
  | brk => obtain ⟨_, _, _, q⟩ := z; exact q.elim
  | cont => obtain ⟨_, _, _, q⟩ := z; exact q.elim
theorem pe_callW {X : Cx} {a : Addr} {oe : Obj} {pn : List (Addr × Obj)} {k : Nat} {f : Addr} {fd : FuncData} {ps : List Str} {sp : Sp} {x : Str} {q pos : Pos} {e : Expr} {es : List Expr} {t : TA} {E : XK} (F : FnW X.prog X.w X.K X.mg X.base k f fd ps sp) (hr : L2H.RoomH k X.A)
    (hg : Gl X x) (hm : X.mg x = some (.ref f)) (hk : PySem.W.keepIn X.K (.ref f) = true) (hb : Binds X.K fd ps []) (ha : PA (X.suite a ((a, oe) :: pn)) (e :: es) t) (hdb : (x == ("__debug__" : Str)) = false := by decide)
    (he : starEach (e :: es) X.env = (false, eval e X.env) :: starEach es X.env := by rfl) (hpl : (backTo pos (starEach es X.env)).any (·.1) = false := by rfl) :
    PE (X.suite a ((a, oe) :: pn)) (.Call (.Name x q) (e :: es) [] pos) (fun σ H Q => t σ H fun vs H1 => sp vs H1 Q E) := by
  refine ⟨fun pins s σ H Q I h => ?_⟩
  refine wpAny_Call_Name_kw (ld_glob I hg hm ?_ hdb)
  refine PySem.W.callWith_K (h₀ := X.base) I.ok.mod.kin hk (thn (ha.run pos pins s σ H _ I h) fun us s1 ⟨vs, H1, I1, r, q⟩ => ⟨I1.kIn, ?_⟩) he hpl
  have hl : us.length = ps.length := by rw [← r.length]; exact F.len _ _ _ _ q
  have b := hb s1 us I1.kIn (by rw [List.append_nil]; exact hl)
  rw [List.append_nil] at b
  have P1 := I1.pin (a, oe) (List.mem_append_left _ List.mem_cons_self)
  have hpin : L2H.PinOk X.stack H1 s1 (a, oe) := ⟨P1.1, P1.2.1, fun hm => (List.mem_cons.mp (I1.stkSub a hm)).elim P1.2.2.1 P1.2.2.2.1, P1.2.2.2.2⟩
  refine wpAny_call (codeAny_mono (F.run (X.A.mark (some (.ref a))) X.stack s1 H1 ⟨us, []⟩ us vs Q E (a, oe) ⟨hr.dp, hr.un⟩ hpin I1.env0 b r q) fun rr s' hq => ?_)
  cases rr with
  | error er => exact hq.elim
  | ok fl =>
    cases fl with
    | ret u => exact I1.after hq
    | next => exact False.elim hq
    | brk => exact False.elim hq
    | cont => exact False.elim hq
end DL
namespace DL
open PySem PySem.Spec PyProof.Rows L2
section
variable {X : Cx} {EA : XK} {e o b : Expr} {st : Stmt} {rest : List Stmt} {T U : SM} {te : TE} {pos pos' : Pos} {f g : M D}
theorem pst_set {i : Nat} {x : Str} (hN : X.N.Nodup) (hi : X.N[i]? = some x) (hx : L2.Loc X.env.scope x) (he : PET X e te) (hs : swapsWith e (some (.Name x pos')) pos.line X.env = pure false := by rfl)
    (hf : X.fn x = true ∨ X.env.scope.names.lookup x = some .local := by first | exact .inl rfl | exact .inr rfl | assumption) : PST X (.Assign [.Name x pos'] e pos) (fun D σ H => te σ H fun v H' => D.nx (σ.set i (some v)) H') := by
  intro pins s σ H D h0 I h
  refine wpAny_Assign_Name (thn (he pins s σ H _ h0 I h) fun v s1 ⟨y, H1, I1, r1, q1⟩ => ?_) hs
  exact store_ok I1 hN hi hx r1 (fun s2 I2 => ⟨_, _, I2, q1⟩) hf
noncomputable def hRepl (y z : Str) : D → Option D
  | .str x => if x.length + (x.length + 1) * z.length ≤ 16777216 then some (.str (Txt.replace x y z)) else none
  | _ => none
theorem dst_setRepl {i : Nat} {x y z : Str} {j k : Nat} {c0 c1 apos cpos : Pos} (hN : X.N.Nodup) (hi : X.N[i]? = some x) (hx : L2.Loc X.env.scope x) (ho : DF X EA o f) (hyz : (y == z) = false := by decide)
    (hst : starEach [.Constant (.str y) j c0, .Constant (.str z) k c1] X.env = [(false, eval (.Constant (.str y) j c0) X.env), (false, eval (.Constant (.str z) k c1) X.env)] := by rfl)
    (hbase : attributeBase o "replace" X.env (eval o X.env) = eval o X.env := by rfl) (hline : (apos.endLine == cpos.line) = true := by rfl)
    (hs : swapsWith (.Call (.Attribute o "replace" apos) [.Constant (.str y) j c0, .Constant (.str z) k c1] [] cpos) (some (.Name x pos')) pos.line X.env = pure false := by rfl)
    (hf : X.fn x = true ∨ X.env.scope.names.lookup x = some .local := by first | exact .inl rfl | exact .inr rfl | assumption) :
    PST X (.Assign [.Name x pos'] (.Call (.Attribute o "replace" apos) [.Constant (.str y) j c0, .Constant (.str z) k c1] [] cpos) pos) (tS (bx X) EA (sSet i (mMap Cell.fz (mOpt (hRepl y z) f)))) := by
  intro pins s σ H D h0 I ⟨A, H0, G0, env, G, S, h⟩
  refine pst_set hN hi hx (CwR.pet_replC (z := z) ho hyz hst hbase hline) hs hf pins s σ H D h0 I ?_
  refine seq1 (β := Out) (P := OutOk (bx X) A H0 G0 D) (k := fun d e2 => ((optR (hRepl y z d)).map fun q => (Cell.fz q, e2)).bind fun p => setC i p.1 p.2) S ?_ fun v G1 H1 d e1 S1 s1 r1 h1 => ?_
  · unfold sSet mMap mOpt at h
    cases hq : f env with
    | stuck => rw [hq] at h; exact h.elim
    | ex x => rw [hq] at h; exact h
    | ok q =>
      rw [hq] at h
      simp only [Res.bind_ok] at h ⊢
      cases hz : hRepl y z q.1 with
      | none => rw [hz] at h; exact h.elim
      | some w => rw [hz] at h; exact h
  · cases hz : hRepl y z d with
    | none => rw [hz] at h1; exact h1.elim
    | some w =>
      rw [hz] at h1
      cases d <;> simp only [hRepl] at hz <;> try (cases hz; done)
      split at hz
      · rename_i xx hl
        cases hz; cases r1
        have W : Val (bx X) H0 e1 G1 σ H1 (.fz (.str (Txt.replace xx y z))) (V.str (Txt.replace xx y z)) := ⟨⟨_, rfl, rfl⟩, fun l z => by cases z⟩
        exact ⟨xx, rfl, hl, setC_ok S1 W h1⟩
      · cases hz
theorem dsst_cons (h1 : PST X st (tS (bx X) EA T)) (h2 : DSs X EA rest U) : PSsT X (st :: rest) (tS (bx X) EA (sSeq T U)) := by
  intro pins s σ H D h0 I ⟨A, H0, G0, env, G, S, h⟩
  refine psst_cons h1 (PSsT.of h2) pins s σ H D h0 I ?_
  refine ⟨A, H0, G0, env, G, S, Res.sat_mono (Res.sat_bind h) (fun o ho => ?_) fun _ z => z⟩
  cases o with
  | nx e => exact fun G' σ' H' S' => ⟨A, H0, G0, e, G', S', ho⟩
  | rt c e => exact ho
  | bk e => exact ho
  | ct e => exact ho
end
structure FnT (P : Program) (w : World) (K : Fg) (mg : Str → Option Value) (base : Heap) (k : Nat) (f : Addr) (fd : FuncData) (ps : List Str) (sp : Sp) : Prop where
  len : ∀ vs H Q E, sp vs H Q E → vs.length = ps.length
  run : ∀ (A : Around) (outer : List Env) (s : Shared) (H : Hp) (args : Args) (us : List Value) (vs : List V) (Q : VK) (E : XK), 1 ≤ s.toks → Room k A → Env0 P w K mg base A outer s H → BindsTo s fd args (ps.zip us) → Vals vs us → sp vs H Q E →
    codeAny (model P w) A (.call (.ref f) args) (CR CX0 outer P w H s Q E) s
theorem fn_ofT {P : Program} {w : World} {K : Fg} {mg : Str → Option Value} {base : Heap} {k : Nat} {x qual : Str} {st : Stmt} {f : Addr} {fd : FuncData} {N ps : List Str} {sp : Sp} {T : SM} (F : FunA K x qual st f fd) (S : FnScope N ps (defScope st))
    (hsp : ∀ vs H Q E, sp vs H Q E → vs.length = ps.length ∧ tS ⟨K, P, w, mg⟩ E T { nx := fun _ H' => Q .non H', rt := Q } (L2.start N vs) H)
    (hb : ∀ (cdv : Value) (A : Around) (outer : List Env) (s : Shared) (H : Hp) (E : XK), Room k (A.deeper (envOfC qual (defScope st) s.heap.objs.size f cdv)) →
      PSsT (cxOf CX0 P w K mg base N qual (defScope st) f cdv A outer s H E) (defBody st) (tS ⟨K, P, w, mg⟩ E T)) : FnT P w K mg base (k + 1) f fd ps sp := by
  obtain ⟨oc, od, dV, kV, doc, pm, an, cdv, ct, osl, rfl, lk, hcd, _⟩ := F.ex
  refine ⟨fun vs H Q E h => (hsp vs H Q E h).1, fun A outer s H args us vs Q E h0 hr e0 hbd r h => ?_⟩
  obtain ⟨hl, hq⟩ := hsp _ _ _ _ h
  have kp : ∀ b o, base.get? b = some o → s.heap.get? b = some o := fun b o e => (e0.bs b o e).1
  have KX : K.In s.heap := e0.mod.kin.keeps kp
  have par : ∀ y ∈ ps.zip us, (defScope st).names.lookup y.1 = some .local ∨ ((defScope st).names.lookup y.1 = some .cell ∧ ((cellsFrom (s.heap.objs.size + 1) (defScope st).names []).lookup y.1).isSome = true) := by
    rintro ⟨n, v⟩ hy
    rcases S.par n (List.of_mem_zip hy).1 with z | z
    · exact .inl z
    · exact .inr ⟨z, PySem.W.cellsFrom_some _ _ _ (.inl z)⟩
  refine codeAny_call_function hr.depth (KX _ _ lk) rfl S.co S.gen rfl (PySem.W.codeRec_of KX hcd) (hbd _ _ _ _ (wpAny_mono (PySem.wpAny_toks (wpAny_newFunctionEnv_cells (Q := fun env s1 => env = envOfC qual (defScope st) s.heap.objs.size f cdv ∧ InCallC s env.locals (bindL env.kindOf (ps.zip us) fun _ => none) env.cells (bindC env.kindOf (ps.zip us) fun _ => none) s1) S.kind par fun env he s1 ic => ⟨he, ic⟩)) (fun env s1 z => ?_) fun _ _ z => z.2))
  obtain ⟨hk, he, ic⟩ := z
  subst he
  have I := inv_start (CX := CX0) (P := P) (w := w) (K := K) (mg := mg) (base := base) (A := A) (E := E) S hr.hd e0 hl r ic
  refine ⟨(e0.mod.nolimit.keeps kp).keeps ic.toInCall.keep, codeAny_func (wpAny_mono (hb cdv A outer s H E (hr.deeper _) [] s1 _ H _ (Nat.le_trans h0 hk) I hq) (fun fl s' z => ?_) fun _ _ z => z)⟩
  cases fl with
  | ret u => obtain ⟨v, _, H', J, rv, q⟩ := z; exact ⟨v, H', J.os, J.bare, J.base, J.hok, rv, q⟩
  | next => obtain ⟨_, H', J, q⟩ := z; exact ⟨V.non, H', J.os, J.bare, J.base, J.hok, rfl, q⟩
  | brk => obtain ⟨_, _, _, q⟩ := z; exact q.elim
  | cont => obtain ⟨_, _, _, q⟩ := z; exact q.elim
structure DCalT (P : Program) (w : World) (K : Fg) (mg : Str → Option Value) (base : Heap) (k : Nat) (x : Str) (F : List D → Res Cell) : Prop where
  ex : ∃ f fd ps, FnT P w K mg base k f fd ps (pureSp ⟨K, P, w, mg⟩ F) ∧ mg x = some (.ref f) ∧ PySem.W.keepIn K (.ref f) = true ∧ Binds K fd ps []
section
variable {X : Cx} {EA : XK} {e1 b : Expr} {pos p : Pos} {f g : M D} {r : M (List D)} {x : Str} {k j : Nat} {F : List D → Res Cell}
theorem ar_cons {B : Bx} {σ : L2.St} {H : Hp} {Q : List V → Hp → Prop} (h : tAr B EA (aCons f r) σ H Q) : tF B EA f σ H fun x H1 => tAr B EA r σ H1 fun xs H2 => Q (x :: xs) H2 := by
  obtain ⟨A, H0, G0, env, G, S, h1⟩ := h
  refine seq1 (β := List D × DEnv) (k := fun (a : D) (e2 : DEnv) => (r e2).map fun (q : List D × DEnv) => (a :: q.1, q.2)) S h1 fun x G2 H2 a e2 S2 s2 r1 h2 => ?_
  exact ⟨A, H0, G0, e2, G2, S2, Res.sat_mono (Res.sat_map h2) (fun q hq vs G3 H3 S3 s3 r3 => hq (x :: vs) G3 H3 S3 (s2.trans s3) (RepL.cons (Rep.mono s3 _ _ r1) r3)) fun _ z => z⟩
theorem ar_nil {B : Bx} {σ : L2.St} {H : Hp} {Q : List V → Hp → Prop} (h : tAr B EA aNil σ H Q) : Q [] H := by
  obtain ⟨A, H0, G0, env, G, S, h1⟩ := h
  exact h1 [] G H S (Same.refl _) RepL.nil
theorem pek_fdiv {n : Int} {jj : Nat} {cp bp : Pos} (hb : DF X EA b f) {pins : List (Addr × Obj)} {s : Shared} {σ : L2.St} {H : Hp} {Q : VK} (I : Inv X pins σ H s) (h : tF (bx X) EA (mOpt2 hFdiv f (gC (.int n))) σ H Q) :
    wpAny (model X.prog X.w) X.A (eval (.BinOp b .FloorDiv (.Constant (.int n) jj cp) bp) X.env) (fun u s' => 1 ≤ s'.toks ∧ EP X pins σ Q u s') X.xe s := by
  obtain ⟨A, H0, G0, env, G, S, h1⟩ := h
  have h2 : tF (bx X) EA f σ H fun x H1 => ∃ i, x = .int i ∧ 0 < n ∧ n < 1073741824 ∧ Q (.int (i / n)) H1 := by
    refine seq1 (k := fun a e2 => (gC (.int n) e2).bind fun q => (optR (hFdiv a q.1)).map fun d => (d, q.2)) S h1 fun x G2 H2 a e2 S2 s2 r1 h2 => ?_
    unfold gC at h2
    simp only [Res.bind_ok] at h2
    obtain ⟨d, ed, h3⟩ := optR_sat (Res.sat_map h2)
    cases a <;> simp only [hFdiv] at ed <;> try (cases ed; done)
    split at ed
    · rename_i i hl
      cases r1; cases ed
      exact ⟨_, rfl, hl.1, hl.2, h3 _ G2 H2 S2 s2 rfl⟩
    · cases ed
  refine wpAny_BinOp (thn (hb.run pins s σ H _ I h2) fun v s1 ⟨y, H1, I1, r1, i, ey, n0, n1, q1⟩ => ?_)
  subst ey
  refine wpAny_Constant_int ?_
  refine wpAny_mono (PySem.wpAny_toks (op_fdiv pins { s1 with toks := s1.toks + 1 } σ H1 (.int i) (.int n) v _ Q (I1.tok _) r1 ⟨_, rfl⟩ ⟨i, n, rfl, rfl, ⟨n0, n1⟩, q1⟩)) (fun u s2 z => ⟨?_, z.2⟩) fun _ _ z => z.2
  have : s1.toks + 1 ≤ s2.toks := z.1
  omega
theorem de_callT2 {n : Int} {jj : Nat} {cp bp : Pos} (c : DCalT X.prog X.w X.K X.mg X.base k x F) (hr : Room j X.A) (hk : k ≤ j) (hg : Gl X x) (h1 : DF X EA e1 f) (h2 : DF X EA b g) (hdb : (x == ("__debug__" : Str)) = false := by decide)
    (he : starEach [e1, .BinOp b .FloorDiv (.Constant (.int n) jj cp) bp] X.env = (false, eval e1 X.env) :: starEach [.BinOp b .FloorDiv (.Constant (.int n) jj cp) bp] X.env := by rfl)
    (he2 : backTo pos (starEach [.BinOp b .FloorDiv (.Constant (.int n) jj cp) bp] X.env) = [(false, eval (.BinOp b .FloorDiv (.Constant (.int n) jj cp) bp) X.env)] := by rfl)
    (hpl : (backTo pos (starEach [.BinOp b .FloorDiv (.Constant (.int n) jj cp) bp] X.env)).any (·.1) = false := by rfl) :
    DE X EA (.Call (.Name x p) [e1, .BinOp b .FloorDiv (.Constant (.int n) jj cp) bp] [] pos) (gCall F (aCons f (aCons (mOpt2 hFdiv g (gC (.int n))) aNil))) := by
  obtain ⟨fa, fd, ps, Fn, hm, hkp, hb⟩ := c.ex
  refine ⟨fun pins s σ H Q I ⟨A, H0, G0, env, G, S, h⟩ => ?_⟩
  have ha : tAr (bx X) EA (aCons f (aCons (mOpt2 hFdiv g (gC (.int n))) aNil)) σ H (fun vs H1 => pureSp (bx X) F vs H1 Q EA) :=
    ⟨A, H0, G0, env, G, S, Res.sat_mono (Res.sat_bind h) (fun q hq vs G1 H1 S1 s1 rv => call_end S1 rv (Res.sat_mono hq (fun z hz v G' H' S' s' W => hz v G' H' S' (s1.trans s') W) fun _ z => z)) fun _ z => z⟩
  refine wpAny_Call_Name_kw (ld_glob I hg hm ?_ hdb)
  refine PySem.W.callWith_K (h₀ := X.base) I.ok.mod.kin hkp ?_ he hpl
  rw [he]
  show wpAny _ _ (spliced ((false, eval e1 X.env) :: backTo pos (starEach [.BinOp b .FloorDiv (.Constant (.int n) jj cp) bp] X.env))) _ _ s
  refine Calls.spliced_cons (thn (h1.run pins s σ H _ I (ar_cons ha)) fun u1 s1 ⟨x1, H1, I1, r1, q1⟩ => ?_)
  rw [he2]
  refine Calls.spliced_cons (thn (pek_fdiv h2 I1 (ar_cons q1)) fun u2 s2 ⟨tk, x2, H2, I2, r2, q2⟩ => ?_)
  refine Calls.spliced_nil ⟨I2.kIn, ?_⟩
  have hq := ar_nil q2
  have hl : [u1, u2].length = ps.length := Fn.len _ _ _ _ hq
  have hbd := hb s2 [u1, u2] I2.kIn (by rw [List.append_nil]; exact hl)
  rw [List.append_nil] at hbd
  refine wpAny_call (codeAny_mono (Fn.run X.A X.stack s2 H2 ⟨[u1, u2], []⟩ [u1, u2] [x1, x2] Q EA tk (hr.mono hk) I2.env0 hbd (.cons r1 (.cons r2 .nil)) hq) fun rr s' z => ?_)
  cases rr with
  | error er => exact z.elim
  | ok fl =>
    cases fl with
    | ret u => exact I2.after z
    | next => exact False.elim z
    | brk => exact False.elim z
    | cont => exact False.elim z
end
end DL
namespace DL
open PySem PySem.Spec PyProof.Rows L2
/-- a def without defaults, at f -/
structure FnF (K : Fg) (x qual : Str) (st : Stmt) (f : Addr) : Prop where
  ex : ∃ (oc : Value) (od : Option Addr) (kV doc pm : Value) (an : Option Addr) (cdv ct : Value) (osl : Array (Option Value)),
    K.lookup f = some ⟨oc, od, .func (PySem.W.fnOf x qual (defArgs st) (defBody st) (defScope st) .none kV doc pm an cdv ct), osl⟩ ∧ PySem.W.codeIn K cdv qual = true
  kp : PySem.W.keepIn K (.ref f) = true
/-- .. with defaults -/
structure FnD (K : Fg) (x qual : Str) (st : Stmt) (f : Addr) (nd : Nat) : Prop where
  ex : ∃ (oc : Value) (od : Option Addr) (kV doc pm : Value) (an : Option Addr) (cdv ct : Value) (osl : Array (Option Value)) (T : Addr) (oT : Value) (dT : Option Addr) (its : Array Value) (n : Nat) (sT : Array (Option Value)),
    K.lookup f = some ⟨oc, od, .func (PySem.W.fnOf x qual (defArgs st) (defBody st) (defScope st) (.ref T) kV doc pm an cdv ct), osl⟩ ∧ PySem.W.codeIn K cdv qual = true ∧ K.lookup T = some ⟨oT, dT, .seq its n, sT⟩ ∧ its.size = nd
  kp : PySem.W.keepIn K (.ref f) = true
section
variable {K : Fg} {x qual : Str} {st : Stmt} {f : Addr} {ps : List Str}
theorem fnf_mk {oc : Value} {od an : Option Addr} {osl : Array (Option Value)} {kV doc pm cdv ct : Value} (l : K.lookup f = some ⟨oc, od, .func (PySem.W.fnOf x qual (defArgs st) (defBody st) (defScope st) .none kV doc pm an cdv ct), osl⟩)
    (c : PySem.W.codeIn K cdv qual = true) (k : PySem.W.keepIn K (.ref f) = true) : FnF K x qual st f := ⟨⟨oc, od, kV, doc, pm, an, cdv, ct, osl, l, c⟩, k⟩
theorem fnd_mk {oc : Value} {od an : Option Addr} {osl : Array (Option Value)} {kV doc pm cdv ct : Value} {T : Addr} {oT : Value} {dT : Option Addr} {its : Array Value} {n : Nat} {sT : Array (Option Value)}
    (l : K.lookup f = some ⟨oc, od, .func (PySem.W.fnOf x qual (defArgs st) (defBody st) (defScope st) (.ref T) kV doc pm an cdv ct), osl⟩)
    (c : PySem.W.codeIn K cdv qual = true) (t : K.lookup T = some ⟨oT, dT, .seq its n, sT⟩) (k : PySem.W.keepIn K (.ref f) = true) {nd : Nat} (z : its.size = nd) : FnD K x qual st f nd := ⟨⟨oc, od, kV, doc, pm, an, cdv, ct, osl, T, oT, dT, its, n, sT, l, c, t, z⟩, k⟩
theorem FnF.fun (F : FnF K x qual st f) (b : BindA x qual st ps) : ∃ fd, FunA K x qual st f fd ∧ Binds K fd ps [] := by
  obtain ⟨oc, od, kV, doc, pm, an, cdv, ct, osl, l, c⟩ := F.ex
  exact ⟨_, funA_mk l c F.kp b⟩
theorem FnD.fun {nd : Nat} (F : FnD K x qual st f nd) (b : BindD x qual st ps nd) : ∃ fd, FunA K x qual st f fd ∧ Binds K fd ps [] := by
  obtain ⟨oc, od, kV, doc, pm, an, cdv, ct, osl, T, oT, dT, its, n, sT, l, c, t, z⟩ := F.ex
  exact ⟨_, funA_mkD l c F.kp t z b⟩
end
section
variable {P : Program} {w : World} {K : Fg} {mg : Str → Option Value} {base : Heap} {CX : CXT} {k : Nat} {x m qual c : Str} {st : Stmt} {f C : Addr} {ps : List Str} {F : List D → Res Cell} {S : SF}
theorem dcal_mk (a : mg x = some (.ref f)) (h : FnF K x qual st f) (b : BindA x qual st ps) (ok : ∀ fd, FunA K x qual st f fd → FnOk P w K mg base CX k f fd ps (pureSp ⟨K, P, w, mg⟩ F)) : DCal P w K mg base CX k x F := by
  obtain ⟨fd, F1, b1⟩ := h.fun b
  exact ⟨f, fd, ps, ok fd F1, a, h.kp, b1⟩
theorem dcalT_mk (a : mg x = some (.ref f)) (h : FnF K x qual st f) (b : BindA x qual st ps) (ok : ∀ fd, FunA K x qual st f fd → FnT P w K mg base k f fd ps (pureSp ⟨K, P, w, mg⟩ F)) : DCalT P w K mg base k x F := by
  obtain ⟨fd, F1, b1⟩ := h.fun b
  exact ⟨f, fd, ps, ok fd F1, a, h.kp, b1⟩
theorem dself_mk (a : mg x = some (.ref f)) (h : FnF K x qual st f) (b : BindA x qual st ps) (ok : ∀ fd, FunA K x qual st f fd → FnOk P w K mg base CX k f fd ps (selfSp ⟨K, P, w, mg⟩ S)) : DSelf P w K mg base CX k x S := by
  obtain ⟨fd, F1, b1⟩ := h.fun b
  exact ⟨f, fd, ps, ok fd F1, a, h.kp, b1⟩
/-- what a class must have -/
structure ClK (K : Fg) (mg : Str → Option Value) (c : Str) (C : Addr) : Prop where
  mg : mg c = some (.ref C)
  cl : Cls K C
theorem clk_mk (a : mg c = some (.ref C)) (pg : PySem.W.plainGet K C Str.empty = true) (hd : PySem.W.hasDictIn K C = true) (po : PySem.W.plainOver K C = true) (sa : PySem.W.findIn K (.ref C) "__setattr__" = some (some (.builtin "object.__setattr__"))) : ClK K mg c C := ⟨a, ⟨pg, hd, po, sa⟩⟩
theorem clsf_mk {fl : Str} (h : ClK K mg c C) (n : PySem.W.findIn K (.ref C) fl = some none) : ClsF K mg c fl := ⟨C, h.mg, h.cl, n⟩
/-- a method of it -/
structure MtK (K : Fg) (C : Addr) (m : Str) (f : Addr) : Prop where
  me : Meth K C m f
theorem mtk_mk (a : PySem.W.findIn K (.ref C) m = some (some (.ref f))) (i : PySem.W.isFn K (.ref f) = true) (k : PySem.W.keepIn K (.ref f) = true) : MtK K C m f := ⟨⟨a, i, k⟩⟩
theorem dmet_mk (h0 : ClK K mg c C) (h1 : MtK K C m f) (h : FnF K m qual st f) (b : BindA m qual st ps) (ok : ∀ fd, FunA K m qual st f fd → FnOk P w K mg base CX k f fd ps (pureSp ⟨K, P, w, mg⟩ F)) : DMet P w K mg base CX k c m F := by
  obtain ⟨fd, F1, b1⟩ := h.fun b
  exact ⟨C, f, fd, ps, h0.mg, h0.cl, h1.me, ok fd F1, b1⟩
theorem dsmet_mk (h0 : ClK K mg c C) (h1 : MtK K C m f) (h : FnF K m qual st f) (b : BindA m qual st ps) (ok : ∀ fd, FunA K m qual st f fd → FnOk P w K mg base CX k f fd ps (selfSp ⟨K, P, w, mg⟩ S)) : DSMet P w K mg base CX k c m S := by
  obtain ⟨fd, F1, b1⟩ := h.fun b
  exact ⟨C, f, fd, ps, h0.mg, h0.cl, h1.me, ok fd F1, b1⟩
/-- it is made -/
theorem dmk_mk (h0 : ClK K mg c C) (M : Mk K C f) (h : ∃ fd, FunA K "__init__" qual st f fd ∧ Binds K fd ps []) (ok : ∀ fd, FunA K "__init__" qual st f fd → FnOk P w K mg base CX k f fd ps (selfSp ⟨K, P, w, mg⟩ S)) : DMk P w K mg base CX k c S := by
  obtain ⟨fd, F1, b1⟩ := h
  exact ⟨C, f, fd, ps, h0.mg, M, ok fd F1, b1⟩
theorem dcls_mk {mc : Value} (a : mg c = some (.ref C)) (rd : PySem.W.readsIn K C mc = true) (ga : PySem.W.specialIn K (.ref C) "__getattribute__" = some (some (.builtin "type.__getattribute__"))) (fc : PySem.W.findCls K (.ref C) mc m = some (.val (.ref f)))
    (h : FnF K m qual st f) (b : BindA m qual st ps) (ok : ∀ fd, FunA K m qual st f fd → FnOk P w K mg base CX k f fd ps (selfSp ⟨K, P, w, mg⟩ S)) : DCls P w K mg base CX k c m S := by
  obtain ⟨fd, F1, b1⟩ := h.fun b
  exact ⟨C, mc, f, fd, ps, a, ⟨rd, ga⟩, ⟨fc, rfl⟩, h.kp, ok fd F1, b1⟩
end
section
variable {B : Bx} {x : Str}
theorem klstS_mk {zs : List Str} {a : Addr} {dd : Option Addr} {its : Array Value} {n : Nat} {sl : Array (Option Value)} (g : B.mg x = some (.ref a)) (l : B.K.lookup a = some ⟨.type "list", none, .seq its n, sl⟩) (v : Vals (zs.map V.str) its.toList) (z : its.size ≤ 1000) : KLst B x (zs.map D.str) :=
  ⟨a, zs.map V.str, g, fun G => .inr ⟨_, its, n, l, rfl, rfl, rfl, by rw [sizeLine_eq]; omega, v⟩, fun G => RepL.of_strs zs⟩
theorem ents_nil : Ents B [] [] := rfl
theorem ents_cons {e : DictEntry} {es : List DictEntry} {k : Str} {d : D} {r : List (Str × D)} (hk : ∃ t, e.key = .str k t) (hv : ∃ v, RelV v e.val ∧ ∀ G, Rep B G d v) (t : Ents B es r) : Ents B (e :: es) ((k, d) :: r) := ⟨k, d, r, rfl, hk, hv, t⟩
theorem valS {z : Str} {t : Tok} : ∃ v, RelV v (.str z t) ∧ ∀ G, Rep B G (.str z) v := ⟨.str z, ⟨t, rfl⟩, fun _ => rfl⟩
theorem valT2 {a : Addr} {dd : Option Addr} {y z : Str} {t u : Tok} {n : Nat} {sl : Array (Option Value)} (l : B.K.lookup a = some ⟨.type "tuple", dd, .seq #[.str y t, .str z u] n, sl⟩) : ∃ v, RelV v (.ref a) ∧ ∀ G, Rep B G (.tup [.str y, .str z]) v :=
  ⟨.ref a, rfl, fun G => ⟨a, [.str y, .str z], rfl, .inr ⟨_, _, n, l, rfl, rfl, by rw [sizeLine_eq]; show 2 ≤ 16777216; omega, .cons ⟨t, rfl⟩ (.cons ⟨u, rfl⟩ .nil)⟩, ⟨_, _, rfl, rfl, RepL.one rfl⟩⟩⟩
theorem ktab_mk {kvs : List (Str × D)} {a : Addr} {es : Array DictEntry} {n : Nat} (g : B.mg x = some (.ref a)) (l : B.K.lookup a = some ⟨.type "dict", none, .dict es n, #[]⟩) (k : PySem.W.KeysLit B.w.params es.toList) (low : (a == sysModules) = false) (e : Ents B es.toList kvs) : KTab B x kvs :=
  ⟨a, es, n, g, ⟨l, k, low⟩, e⟩
end
structure ExK (K : Fg) (mg : Str → Option Value) (c base_ fl qual : Str) (st : Stmt) : Prop where
  ex : ∃ C f PC mc, mg c = some (.ref C) ∧ mg base_ = some (.ref PC) ∧ OexC K C ∧ PySem.W.findIn K (.ref C) "__init__" = some (some (.ref f)) ∧ PySem.W.typeIn K (.ref f) = some (.type "function") ∧ FnF K "__init__" qual st f ∧
    PySem.W.findIn K (.ref C) fl = some none ∧ ClX.CRead K PC mc ∧ PySem.W.findCls K (.ref PC) mc "__init__" = some (.val (.builtin "ValueError.__init__"))
end DL
namespace DL
open PySem PySem.Spec PyProof.Rows L2
section
variable {α β γ : Type} {T U : SM} {t u : M Bool} {f g : M D} {m : M Cell} {r : M (List D)} {env : DEnv} {ds : List D} {n k i : Nat} {F : List D → Res Cell} {S : SF}
@[simp] theorem ev_runs : runs n k T ds = if ds.length = n then (T (ds.map Cell.fz ++ List.replicate k Cell.no)).bind outC else .stuck := rfl
@[simp] theorem ev_runsS {c : Cell} : runsS n k T c ds = if ds.length = n then (T (c :: (ds.map Cell.fz ++ List.replicate k Cell.no))).bind outS else .stuck := rfl
@[simp] theorem ev_outC_rt {c e} : outC (.rt c e) = .ok c := rfl
@[simp] theorem ev_outC_nx {e} : outC (.nx e) = .ok (.fz .non) := rfl
@[simp] theorem ev_outS_rt {c s e} : outS (.rt c (s :: e)) = .ok (c, s) := rfl
@[simp] theorem ev_outS_nx {s e} : outS (.nx (s :: e)) = .ok (.fz .non, s) := rfl
@[simp] theorem ev_sSeq : sSeq T U env = (T env).bind fun o => sThen o U := rfl
@[simp] theorem ev_sThen_nx {e} : sThen (.nx e) U = U e := rfl
@[simp] theorem ev_sThen_rt {c e} : sThen (.rt c e) U = .ok (.rt c e) := rfl
@[simp] theorem ev_sThen_bk {e} : sThen (.bk e) U = .ok (.bk e) := rfl
@[simp] theorem ev_sThen_ct {e} : sThen (.ct e) U = .ok (.ct e) := rfl
@[simp] theorem ev_sNil : sNil env = .ok (.nx env) := rfl
@[simp] theorem ev_sIf : sIf t T U env = (t env).bind fun p => if p.1 = true then T p.2 else U p.2 := rfl
@[simp] theorem ev_sSet : sSet i m env = (m env).bind fun p => setC i p.1 p.2 := rfl
@[simp] theorem ev_setC0_no {c : Cell} {e : DEnv} : setC 0 c (.no :: e) = .ok (.nx (c :: e)) := rfl
@[simp] theorem ev_setC0_fz {c : Cell} {d : D} {e : DEnv} : setC 0 c (.fz d :: e) = .ok (.nx (c :: e)) := rfl
@[simp] theorem ev_setC0_ow {c : Cell} {e : DEnv} : setC 0 c (.ow ds :: e) = .ok (.nx (c :: e)) := rfl
@[simp] theorem ev_setC0_dk {c : Cell} {ks} {e : DEnv} : setC 0 c (.dk ks ds :: e) = .ok (.nx (c :: e)) := rfl
theorem setC_at {c c0 : Cell} {e : DEnv} (h : e[i]? = some c0) (hn : ∀ a b d, c0 ≠ .ob a b d) : setC i c e = .ok (.nx (e.set i c)) := by
  unfold setC
  rw [h]
  cases c0 <;> first | rfl | exact (hn _ _ _ rfl).elim
@[simp] theorem ev_setC_s {c c0 : Cell} {e : DEnv} : setC (i + 1) c (c0 :: e) = (setC i c e).bind fun o => (match o with | Out.nx e' => Res.ok (Out.nx (c0 :: e')) | _ => Res.stuck : Res Out) := by
  unfold setC
  rw [List.getElem?_cons_succ]
  cases e[i]? with
  | none => rfl
  | some d => cases d <;> rfl
@[simp] theorem ev_sRet : sRet m env = (m env).map fun p => .rt p.1 p.2 := rfl
@[simp] theorem ev_sDrop : sDrop f env = (f env).map fun p => .nx p.2 := rfl
@[simp] theorem ev_sAsg {h : D → SM} : sAsg f h env = (f env).bind fun p => h p.1 p.2 := rfl
@[simp] theorem ev_gtName {d : D} : gtName i d env = setC i (.fz d) env := rfl
@[simp] theorem ev_gtTup {h : List D → SM} : gtTup n h (.tup ds) env = if ds.length = n then h ds env else .stuck := rfl
@[simp] theorem ev_gtCons {h : D → SM} {q : List D → SM} {d : D} : gtCons h q (d :: ds) env = (h d env).bind fun o => sThen o (q ds) := rfl
@[simp] theorem ev_gtNil : gtNil [] env = .ok (.nx env) := rfl
@[simp] theorem ev_gC {d : D} : gC d env = .ok (d, env) := rfl
@[simp] theorem ev_mPure {a : α} : mPure a env = .ok (a, env) := rfl
@[simp] theorem ev_mMap {h : α → β} {q : M α} : mMap h q env = (q env).map fun p => (h p.1, p.2) := rfl
@[simp] theorem ev_mOpt {h : α → Option β} {q : M α} : mOpt h q env = (q env).bind fun p => (optR (h p.1)).map fun d => (d, p.2) := rfl
@[simp] theorem ev_mOpt2 {h : α → β → Option γ} {q : M α} {w : M β} : mOpt2 h q w env = (q env).bind fun p => (w p.2).bind fun q => (optR (h p.1 q.1)).map fun d => (d, q.2) := rfl
@[simp] theorem ev_mAnd : mAnd t u env = (t env).bind fun p => if p.1 = true then u p.2 else .ok (false, p.2) := rfl
@[simp] theorem ev_mOr : mOr t u env = (t env).bind fun p => if p.1 = true then .ok (true, p.2) else u p.2 := rfl
@[simp] theorem ev_mNot : mNot t env = (t env).map fun p => (!p.1, p.2) := rfl
@[simp] theorem ev_vAnd : vAnd f g env = (f env).bind fun p => (optR (hBl p.1)).bind fun b => if b = true then g p.2 else .ok (.bl false, p.2) := rfl
@[simp] theorem ev_vOr : vOr f g env = (f env).bind fun p => (optR (hBl p.1)).bind fun b => if b = true then .ok (.bl true, p.2) else g p.2 := rfl
@[simp] theorem ev_hBl {b} : hBl (.bl b) = some b := rfl
@[simp] theorem ev_vNot {b} : vNot (.bl b) = some (.bl !b) := rfl
@[simp] theorem ev_gIf {p q : M α} : gIf t p q env = (t env).bind fun z => if z.1 = true then p z.2 else q z.2 := rfl
@[simp] theorem ev_gChain {h h' : D → D → Option Bool} {k3 : M D} : gChain h h' f g k3 env = (f env).bind fun p => (g p.2).bind fun q => (optR (h p.1 q.1)).bind fun b => if b = true then (k3 q.2).bind fun r => (optR (h' q.1 r.1)).map fun d => (d, r.2) else .ok (false, q.2) := rfl
@[simp] theorem ev_aNil : aNil env = .ok ([], env) := rfl
@[simp] theorem ev_aCons : aCons f r env = (f env).bind fun p => (r p.2).map fun q => (p.1 :: q.1, q.2) := rfl
@[simp] theorem ev_toD_fz {d} : Cell.toD (.fz d) = some d := rfl
@[simp] theorem ev_toD_ow : Cell.toD (.ow ds) = some (.lst ds) := rfl
@[simp] theorem ev_toD_dk {ks} : Cell.toD (.dk ks ds) = some (.dic ks ds) := rfl
@[simp] theorem ev_toD_ob {c ns} : Cell.toD (.ob c ns ds) = some (.obj c ns ds) := rfl
theorem okLen_eq (h : ds.length ≤ sizeLine) : okLen ds = some ds := if_pos h
@[simp] theorem ev_okLen0 : okLen [] = some [] := okLen_eq (Nat.zero_le _)
@[simp] theorem ev_okLen1 {a} : okLen [a] = some [a] := okLen_eq (by rw [sizeLine_eq]; show 1 ≤ 16777216; omega)
@[simp] theorem ev_okLen2 {a b} : okLen [a, b] = some [a, b] := okLen_eq (by rw [sizeLine_eq]; show 2 ≤ 16777216; omega)
@[simp] theorem ev_okLen3 {a b c} : okLen [a, b, c] = some [a, b, c] := okLen_eq (by rw [sizeLine_eq]; show 3 ≤ 16777216; omega)
@[simp] theorem ev_okLen4 {a b c d} : okLen [a, b, c, d] = some [a, b, c, d] := okLen_eq (by rw [sizeLine_eq]; show 4 ≤ 16777216; omega)
@[simp] theorem ev_okLen5 {a b c d e} : okLen [a, b, c, d, e] = some [a, b, c, d, e] := okLen_eq (by rw [sizeLine_eq]; show 5 ≤ 16777216; omega)
@[simp] theorem ev_okLen6 {a b c d e f} : okLen [a, b, c, d, e, f] = some [a, b, c, d, e, f] := okLen_eq (by rw [sizeLine_eq]; show 6 ≤ 16777216; omega)
@[simp] theorem ev_okLen8 {a b c d e f g h} : okLen [a, b, c, d, e, f, g, h] = some [a, b, c, d, e, f, g, h] := okLen_eq (by rw [sizeLine_eq]; show 8 ≤ 16777216; omega)
@[simp] theorem ev_okLen9 {a b c d e f g h i} : okLen [a, b, c, d, e, f, g, h, i] = some [a, b, c, d, e, f, g, h, i] := okLen_eq (by rw [sizeLine_eq]; show 9 ≤ 16777216; omega)
@[simp] theorem ev_okLen13 {a b c d e f g h i j k l m} : okLen [a, b, c, d, e, f, g, h, i, j, k, l, m] = some [a, b, c, d, e, f, g, h, i, j, k, l, m] := okLen_eq (by rw [sizeLine_eq]; show 13 ≤ 16777216; omega)
theorem gVar_ow (h : env[i]? = some (.ow ds)) : gVar i env = .ok (.lst ds, env.set i (.fz (.lst ds))) := by unfold gVar; rw [h]
@[simp] theorem ev_gVar0_fz {d : D} {e : DEnv} : gVar 0 (.fz d :: e) = .ok (d, .fz d :: e) := rfl
@[simp] theorem ev_gVar0_ow {e : DEnv} : gVar 0 (.ow ds :: e) = .ok (.lst ds, .fz (.lst ds) :: e) := rfl
@[simp] theorem ev_gVar_s {c : Cell} {e : DEnv} : gVar (i + 1) (c :: e) = match e[i]? with
    | some (.ob a ns ds) => .ok (.obj a ns ds, c :: e.set i (.fz (.obj a ns ds)))
    | _ => (gVar i e).map fun p => (p.1, c :: p.2) := by
  unfold gVar
  rw [List.getElem?_cons_succ]
  cases h : e[i]? with
  | none => rfl
  | some d => cases d <;> rfl
@[simp] theorem ev_gTake0_fz {d : D} {e : DEnv} : gTake 0 (.fz d :: e) = .ok (.fz d, .fz d :: e) := rfl
@[simp] theorem ev_gTake0_ow {e : DEnv} : gTake 0 (.ow ds :: e) = .ok (.ow ds, .no :: e) := rfl
@[simp] theorem ev_gTake_s {c : Cell} {e : DEnv} : gTake (i + 1) (c :: e) = match e[i]? with
    | some (.ob a ns ds) => .ok (.ob a ns ds, c :: e.set i .no)
    | _ => (gTake i e).map fun p => (p.1, c :: p.2) := by
  unfold gTake
  rw [List.getElem?_cons_succ]
  cases h : e[i]? with
  | none => rfl
  | some d => cases d <;> rfl
@[simp] theorem ev_hAdd {a b : Int} : hAdd (.int a) (.int b) = some (.int (a + b)) := rfl
theorem ev_hAddS {a b : Str} (h : a.length + b.length ≤ sizeLine) : hAdd (.str a) (.str b) = some (.str (a ++ b)) := if_pos h
@[simp] theorem ev_hSub {a b : Int} : hSub (.int a) (.int b) = some (.int (a - b)) := rfl
theorem ev_hMul {a b : Int} (h : (-(2 ^ 64) < a ∧ a < 2 ^ 64) ∨ (-(2 ^ 64) < b ∧ b < 2 ^ 64)) : hMul (.int a) (.int b) = some (.int (a * b)) := if_pos h
@[simp] theorem ev_hMod {a b : Int} : hMod (.int a) (.int b) = if 0 < b then some (.int (a % b)) else none := rfl
@[simp] theorem ev_hFdiv {a b : Int} : hFdiv (.int a) (.int b) = if 0 < b ∧ b < 1073741824 then some (.int (a / b)) else none := rfl
@[simp] theorem ev_hShr {a b : Int} : hShr (.int a) (.int b) = if 0 ≤ b then some (.int (a / 2 ^ b.toNat)) else none := rfl
@[simp] theorem ev_hPow {a b : Int} : hPow (.int a) (.int b) = if 0 ≤ b ∧ b ≤ 1000000 ∧ a.natAbs < 2 ^ 64 then some (.int (a ^ b.toNat)) else none := rfl
@[simp] theorem ev_hNeg {a : Int} : hNeg (.int a) = some (.int (-a)) := rfl
@[simp] theorem ev_hLt {a b : Int} : hLt (.int a) (.int b) = some (decide (a < b)) := rfl
@[simp] theorem ev_hLtS {a b : Str} : hLt (.str a) (.str b) = some (decide (a.cps.toList < b.cps.toList)) := rfl
@[simp] theorem ev_hLe {a b : Int} : hLe (.int a) (.int b) = some (decide (a ≤ b)) := rfl
@[simp] theorem ev_hGt {a b : Int} : hGt (.int a) (.int b) = some (decide (b < a)) := rfl
@[simp] theorem ev_hGe {a b : Int} : hGe (.int a) (.int b) = some (decide (b ≤ a)) := rfl
@[simp] theorem ev_hEqI {a b : Int} : hEqS (.int a) (.int b) = some (decide (a = b)) := rfl
@[simp] theorem ev_hEqT {a b : Str} : hEqS (.str a) (.str b) = some (decide (a = b)) := rfl
@[simp] theorem ev_hNeS {a b : D} : hNeS a b = (hEqS a b).map (!·) := rfl
@[simp] theorem ev_hInt {a : Int} : hInt [.int a] = some (.int a) := rfl
@[simp] theorem ev_hIntB {b : Bool} : hInt [.bl b] = some (.int (if b then 1 else 0)) := rfl
@[simp] theorem ev_hMin2 {a b : Int} : hMin2 [.int a, .int b] = some (.int (if b < a then b else a)) := rfl
@[simp] theorem ev_hMax2 {a b : Int} : hMax2 [.int a, .int b] = some (.int (if b > a then b else a)) := rfl
@[simp] theorem ev_gCall : gCall F r env = (r env).bind fun p => (F p.1).map fun c => (c, p.2) := rfl
@[simp] theorem ev_hIxL {j : Int} : hIx (.lst ds) (.int j) = L2.atI ds j := rfl
@[simp] theorem ev_hIxT {j : Int} : hIx (.tup ds) (.int j) = L2.atI ds j := rfl
theorem atI_nat {xs : List α} {j : Nat} : L2.atI xs (j : Int) = xs[j]? := by
  unfold L2.atI ixN
  rw [if_pos (Int.natCast_nonneg j)]
  by_cases h : j < xs.length
  · rw [if_pos (by omega)]; simp
  · rw [if_neg (by omega)]; simp; omega
@[simp] theorem ev_atI0 {x : α} {xs : List α} : L2.atI (x :: xs) 0 = some x := by
  have := atI_nat (xs := x :: xs) (j := 0); simpa using this
@[simp] theorem ev_atI1 {x y : α} {xs : List α} : L2.atI (x :: y :: xs) 1 = some y := by
  have := atI_nat (xs := x :: y :: xs) (j := 1); simpa using this
@[simp] theorem ev_atI2 {x0 x1 x2 : α} {xs : List α} : L2.atI (x0 :: x1 :: x2 :: xs) 2 = some x2 := by
  have := atI_nat (xs := x0 :: x1 :: x2 :: xs) (j := 2); simpa using this
@[simp] theorem ev_atI3 {x0 x1 x2 x3 : α} {xs : List α} : L2.atI (x0 :: x1 :: x2 :: x3 :: xs) 3 = some x3 := by
  have := atI_nat (xs := x0 :: x1 :: x2 :: x3 :: xs) (j := 3); simpa using this
@[simp] theorem ev_atI4 {x0 x1 x2 x3 x4 : α} {xs : List α} : L2.atI (x0 :: x1 :: x2 :: x3 :: x4 :: xs) 4 = some x4 := by
  have := atI_nat (xs := x0 :: x1 :: x2 :: x3 :: x4 :: xs) (j := 4); simpa using this
@[simp] theorem ev_atI5 {x0 x1 x2 x3 x4 x5 : α} {xs : List α} : L2.atI (x0 :: x1 :: x2 :: x3 :: x4 :: x5 :: xs) 5 = some x5 := by
  have := atI_nat (xs := x0 :: x1 :: x2 :: x3 :: x4 :: x5 :: xs) (j := 5); simpa using this
@[simp] theorem ev_atI6 {x0 x1 x2 x3 x4 x5 x6 : α} {xs : List α} : L2.atI (x0 :: x1 :: x2 :: x3 :: x4 :: x5 :: x6 :: xs) 6 = some x6 := by
  have := atI_nat (xs := x0 :: x1 :: x2 :: x3 :: x4 :: x5 :: x6 :: xs) (j := 6); simpa using this
@[simp] theorem ev_atI7 {x0 x1 x2 x3 x4 x5 x6 x7 : α} {xs : List α} : L2.atI (x0 :: x1 :: x2 :: x3 :: x4 :: x5 :: x6 :: x7 :: xs) 7 = some x7 := by
  have := atI_nat (xs := x0 :: x1 :: x2 :: x3 :: x4 :: x5 :: x6 :: x7 :: xs) (j := 7); simpa using this
@[simp] theorem ev_atI8 {x0 x1 x2 x3 x4 x5 x6 x7 x8 : α} {xs : List α} : L2.atI (x0 :: x1 :: x2 :: x3 :: x4 :: x5 :: x6 :: x7 :: x8 :: xs) 8 = some x8 := by
  have := atI_nat (xs := x0 :: x1 :: x2 :: x3 :: x4 :: x5 :: x6 :: x7 :: x8 :: xs) (j := 8); simpa using this
theorem atI_neg {xs : List α} {j : Nat} (h0 : 0 < j) (h1 : j ≤ xs.length) : L2.atI xs (-(j : Int)) = xs[xs.length - j]? := by
  unfold L2.atI ixN
  rw [if_neg (by omega), if_pos (by omega)]
  have : (-(j : Int) + xs.length).toNat = xs.length - j := by omega
  rw [this]; rfl
theorem atI_last {xs : List α} {x : α} : L2.atI (xs ++ [x]) (-1) = some x := by
  have := atI_neg (xs := xs ++ [x]) (j := 1) (by decide) (by simp)
  simpa using this
theorem atI_of {xs : List α} {j : Int} (h0 : 0 ≤ j) (h1 : j < xs.length) : ∃ x, L2.atI xs j = some x ∧ xs[j.toNat]? = some x := by
  obtain ⟨m, rfl⟩ := Int.eq_ofNat_of_zero_le h0
  have hm : m < xs.length := by omega
  exact ⟨xs[m], by rw [atI_nat]; simp [hm], by simp [hm]⟩
theorem atI_mem {xs : List α} {j : Int} (h0 : 0 ≤ j) (h1 : j < xs.length) : ∃ x, L2.atI xs j = some x ∧ x ∈ xs := by
  obtain ⟨x, a, b⟩ := atI_of h0 h1
  exact ⟨x, a, List.mem_of_getElem? b⟩
end
end DL
namespace DL
open PySem PySem.Spec PyProof.Rows L2
noncomputable def topS (i : Nat) : Stmt := PySem.Challenge.pw_padwright_k50_any_word_anywhere.main.body.getD i (.Pass ⟨0, 0, 0, 0⟩)
structure Bn (mg : Str → Option Value) : Prop where
  b_len : mg "len" = none
  b_int : mg "int" = none
  b_str : mg "str" = none
  b_list : mg "list" = none
  b_range : mg "range" = none
  b_isinstance : mg "isinstance" = none
  b_divmod : mg "divmod" = none
  b_abs : mg "abs" = none
  b_all : mg "all" = none
  b_min : mg "min" = none
  b_max : mg "max" = none
  b_zip : mg "zip" = none
  b_bool : mg "bool" = none
  b_tuple : mg "tuple" = none
noncomputable def kl_STYLES : List D := [.str "minus", .str "plus", .str "blank", .str "brackets", .str "behind"]
noncomputable def kl_WAYS : List D := [.str "down", .str "up", .str "cut", .str "near", .str "even"]
noncomputable def kl_SIDES : List D := [.str "left", .str "right", .str "middle"]
noncomputable def kv_ABOVE : List (Str × D) := [("minus", .tup [.str "", .str ""]), ("plus", .tup [.str "+", .str ""]), ("blank", .tup [.str " ", .str ""]), ("brackets", .tup [.str "", .str ""]), ("behind", .tup [.str "", .str ""])]
noncomputable def kv_BELOW : List (Str × D) := [("minus", .tup [.str "-", .str ""]), ("plus", .tup [.str "-", .str ""]), ("blank", .tup [.str "-", .str ""]), ("brackets", .tup [.str "(", .str ")"]), ("behind", .tup [.str "", .str "-"])]
noncomputable def kv_SIGNS : List (Str × D) := [("lower", .str "abcdefghijklmnopqrstuvwxyz"), ("upper", .str "ABCDEFGHIJKLMNOPQRSTUVWXYZ"), ("figures", .str "0123456789"), ("all", .str "!\"#$&'()*+,-./0123456789:;<=>?@ABCDEFGHIJKLMNOPQRSTUVWXYZ[\\]^_`abcdefghijklmnopqrstuvwxyz{|}~")]
noncomputable abbrev s_is_text : Stmt := topS 53
theorem sc_is_text : FnScope ["thing", "sign"] ["thing"] (defScope s_is_text) := ⟨rfl, rfl, rfl, by decide +kernel, rfl, by decide +kernel, by decide +kernel⟩
noncomputable def F_is_text : List D → Res Cell := runs 1 1 (sSeq (sIf (mNot (mOpt hBl (mOpt hIsi (aCons (gVar 0) (aCons (gC (.ty "str")) aNil))))) (sRet (mMap Cell.fz (gC (.bl false)))) sNil)
  (sSeq (sFor (mOpt hSgn (gVar 0)) (gtName 1) (sIf (mAnd (mOpt2 hNeS (gVar 1) (gC (.str " "))) (mOpt2 hNotInQ (gVar 1) (mOpt (hTab kv_SIGNS) (gC (.str "all"))))) (sRet (mMap Cell.fz (gC (.bl false)))) sNil))
  (sRet (mMap Cell.fz (gC (.bl true))))))
theorem d_is_text {P : Program} {w : World} {K : Fg} {mg : Str → Option Value} {base : Heap} {f : Addr} {fd : FuncData} (F : FunA K "is_text" "is_text" s_is_text f fd) (B : Bn mg) (k_SIGNS : KTab ⟨K, P, w, mg⟩ "SIGNS" kv_SIGNS) : FnOk P w K mg base CX0 1 f fd ["thing"] (pureSp ⟨K, P, w, mg⟩ F_is_text) :=
  fn_p0 (k := 0) F sc_is_text rfl fun cdv A outer s H E hr =>
  (dss_cons (ds_if (dt_not (dt_val (df_isi rfl B.b_isinstance (da_cons (df_var (pv 0)) (da_cons (df_ty B.b_str (by decide +kernel)) da_nil))))) (dss_one (ds_ret (de_f df_bl))) dss_nil)
  (dss_cons (ds_for PassesOwn.never rfl (di_str (df_var (pv 0))) (dg_name sc_is_text.nd (i := 1) rfl (by first | exact .inl rfl | exact .inr rfl)) (dss_one (ds_if (dt_w (dw_and (dt_cmpD cd_neS (df_var (pv 1)) df_str) (dw_and1 (dt_cmpD cd_notInQ (df_var (pv 1)) (df_kIx k_SIGNS df_str))))) (dss_one (ds_ret (de_f df_bl))) dss_nil)))
  (dss_one (ds_ret (de_f df_bl)))))
noncomputable abbrev s_Reading_init : Stmt := inClass (topS 54) 0
theorem sc_Reading_init : FnScope ["self", "told"] ["self", "told"] (defScope s_Reading_init) := ⟨rfl, rfl, rfl, by decide +kernel, rfl, by decide +kernel, by decide +kernel⟩
noncomputable def F_Reading_init : SF := runsS 1 0 (sSeq (sSetF 0 ["Reading"] "told" (gVar 1))
  (sSetF 0 ["Reading"] "at" (gC (.int 0))))
theorem d_Reading_init {P : Program} {w : World} {K : Fg} {mg : Str → Option Value} {base : Heap} {f : Addr} {fd : FuncData} (F : FunA K "__init__" "Reading.__init__" s_Reading_init f fd) (B : Bn mg) (f_Reading_told : ClsFs K mg ["Reading"] "told") (f_Reading_at : ClsFs K mg ["Reading"] "at") : FnOk P w K mg base CX0 1 f fd ["self", "told"] (selfSp ⟨K, P, w, mg⟩ F_Reading_init) :=
  fn_s0 (k := 0) F sc_Reading_init (m := 1) rfl rfl fun cdv A outer s H E hr =>
  (dss_cons (ds_setF (pv 0) f_Reading_told (df_var (pv 1)))
  (dss_one (ds_setF (pv 0) f_Reading_at df_int)))
noncomputable abbrev s_Reading_taken : Stmt := inClass (topS 54) 1
theorem sc_Reading_taken : FnScope ["self"] ["self"] (defScope s_Reading_taken) := ⟨rfl, rfl, rfl, by decide +kernel, rfl, by decide +kernel, by decide +kernel⟩
noncomputable def F_Reading_taken : SF := runsS 0 0 (sSeq (sIf (mOpt2 hEqS (gFldN 0 ["Reading"] "at") (mOpt hLen (aCons (gFldN 0 ["Reading"] "told") aNil))) (sRaise1 "NoForm" "at" (gFldN 0 ["Reading"] "at")) sNil)
  (sSeq (sSetF 0 ["Reading"] "at" (mOpt2 hAdd (gFldN 0 ["Reading"] "at") (gC (.int 1))))
  (sRet (mMap Cell.fz (mOpt2 hIx (gFldN 0 ["Reading"] "told") (mOpt2 hSub (gFldN 0 ["Reading"] "at") (gC (.int 1))))))))
theorem d_Reading_taken {P : Program} {w : World} {K : Fg} {mg : Str → Option Value} {base : Heap} {f : Addr} {fd : FuncData} (F : FunA K "taken" "Reading.taken" s_Reading_taken f fd) (B : Bn mg) (f_Reading_at : ClsFs K mg ["Reading"] "at") (f_Reading_told : ClsFs K mg ["Reading"] "told") (x_NoForm : DExc P w K mg base 1 "NoForm" "at") : FnOk P w K mg base (L2.CX P w) 3 f fd ["self"] (selfSp ⟨K, P, w, mg⟩ F_Reading_taken) :=
  fn_sX (k := 2) F sc_Reading_taken (m := 0) rfl rfl fun cdv A outer s H E hr =>
  (dss_cons (ds_if (dt_cmpD cd_eqS (df_fldN (pv 0) f_Reading_at) (df_len rfl B.b_len (da_cons (df_fldN (pv 0) f_Reading_told) da_nil))) (dss_one (ds_raise1 rfl (takes_of rfl rfl rfl rfl) x_NoForm hr (by decide) rfl (df_fldN (pv 0) f_Reading_at))) dss_nil)
  (dss_cons (ds_setF (pv 0) f_Reading_at (df_add (df_fldN (pv 0) f_Reading_at) df_int))
  (dss_one (ds_ret (de_f (df_ix (df_fldN (pv 0) f_Reading_told) (df_sub (df_fldN (pv 0) f_Reading_at) df_int)))))))
noncomputable abbrev s_Reading_one_of : Stmt := inClass (topS 54) 3
theorem sc_Reading_one_of : FnScope ["self", "some", "word"] ["self", "some"] (defScope s_Reading_one_of) := ⟨rfl, rfl, rfl, by decide +kernel, rfl, by decide +kernel, by decide +kernel⟩
noncomputable def F_Reading_one_of : SF := runsS 1 1 (sSeq (sSet 2 (gMethS "Reading" "taken" F_Reading_taken 0 aNil))
  (sSeq (sIf (mInL true (gVar 2) (gLstN 1)) (sRaise1 "NoForm" "at" (mOpt2 hSub (gFldN 0 ["Reading"] "at") (gC (.int 1)))) sNil)
  (sRet (gTake 2))))
theorem d_Reading_one_of {P : Program} {w : World} {K : Fg} {mg : Str → Option Value} {base : Heap} {f : Addr} {fd : FuncData} (F : FunA K "one_of" "Reading.one_of" s_Reading_one_of f fd) (B : Bn mg) (c_Reading_taken : DSMet P w K mg base (L2.CX P w) 3 "Reading" "taken" F_Reading_taken) (f_Reading_at : ClsFs K mg ["Reading"] "at") (x_NoForm : DExc P w K mg base 1 "NoForm" "at") : FnOk P w K mg base (L2.CX P w) 4 f fd ["self", "some"] (selfSp ⟨K, P, w, mg⟩ F_Reading_one_of) :=
  fn_sX (k := 3) F sc_Reading_one_of (m := 1) rfl rfl fun cdv A outer s H E hr =>
  (dss_cons (ds_set (i := 2) sc_Reading_one_of.nd rfl (by first | exact .inl rfl | exact .inr rfl) (de_methS0 c_Reading_taken hr (by decide) (pass_tk (takes_of rfl rfl rfl rfl)) (pv 0)))
  (dss_cons (ds_if (dt_notInL (df_var (pv 2)) (dq_name (pv 1))) (dss_one (ds_raise1 rfl (takes_of rfl rfl rfl rfl) x_NoForm hr (by decide) rfl (df_sub (df_fldN (pv 0) f_Reading_at) df_int))) dss_nil)
  (dss_one (ds_ret (de_take (pv 2))))))
noncomputable abbrev s_Reading_read_whole : Stmt := inClass (topS 54) 4
theorem sc_Reading_read_whole : FnScope ["self", "low", "high", "word", "sign"] ["self", "low", "high"] (defScope s_Reading_read_whole) := ⟨rfl, rfl, rfl, by decide +kernel, rfl, by decide +kernel, by decide +kernel⟩
noncomputable def F_Reading_read_whole : SF := runsS 2 2 (sSeq (sSet 3 (gMethS "Reading" "taken" F_Reading_taken 0 aNil))
  (sSeq (sIf (mOr (mOpt2 hLt (mOpt hLen (aCons (gVar 3) aNil)) (gC (.int 1))) (mOr (mOpt2 hGt (mOpt hLen (aCons (gVar 3) aNil)) (gC (.int 2))) (mAnd (mOpt2 hEqS (mOpt hLen (aCons (gVar 3) aNil)) (gC (.int 2))) (mOpt2 hEqS (mOpt2 hIx (gVar 3) (gC (.int 0))) (gC (.str "0")))))) (sRaise1 "NoForm" "at" (mOpt2 hSub (gFldN 0 ["Reading"] "at") (gC (.int 1)))) sNil)
  (sSeq (sFor (mOpt hSgn (gVar 3)) (gtName 4) (sIf (mOpt2 hNotInQ (gVar 4) (mOpt (hTab kv_SIGNS) (gC (.str "figures")))) (sRaise1 "NoForm" "at" (mOpt2 hSub (gFldN 0 ["Reading"] "at") (gC (.int 1)))) sNil))
  (sSeq (sIf (mNot (gChain hLe hLe (gVar 1) (mOpt hIntS (aCons (gVar 3) aNil)) (gVar 2))) (sRaise1 "NoForm" "at" (mOpt2 hSub (gFldN 0 ["Reading"] "at") (gC (.int 1)))) sNil)
  (sRet (mMap Cell.fz (mOpt hIntS (aCons (gVar 3) aNil))))))))
theorem d_Reading_read_whole {P : Program} {w : World} {K : Fg} {mg : Str → Option Value} {base : Heap} {f : Addr} {fd : FuncData} (F : FunA K "read_whole" "Reading.read_whole" s_Reading_read_whole f fd) (B : Bn mg) (c_Reading_taken : DSMet P w K mg base (L2.CX P w) 3 "Reading" "taken" F_Reading_taken) (f_Reading_at : ClsFs K mg ["Reading"] "at") (x_NoForm : DExc P w K mg base 1 "NoForm" "at") (k_SIGNS : KTab ⟨K, P, w, mg⟩ "SIGNS" kv_SIGNS) : FnOk P w K mg base (L2.CX P w) 4 f fd ["self", "low", "high"] (selfSp ⟨K, P, w, mg⟩ F_Reading_read_whole) :=
  fn_sX (k := 3) F sc_Reading_read_whole (m := 2) rfl rfl fun cdv A outer s H E hr =>
  (dss_cons (ds_set (i := 3) sc_Reading_read_whole.nd rfl (by first | exact .inl rfl | exact .inr rfl) (de_methS0 c_Reading_taken hr (by decide) (pass_tk (takes_of rfl rfl rfl rfl)) (pv 0)))
  (dss_cons (ds_if (dt_w (dw_or (dt_cmpD cd_lt (df_len rfl B.b_len (da_cons (df_var (pv 3)) da_nil)) df_int) (dw_or (dt_cmpD cd_gt (df_len rfl B.b_len (da_cons (df_var (pv 3)) da_nil)) df_int) (dw_or1 (dt_w (dw_and (dt_cmpD cd_eqS (df_len rfl B.b_len (da_cons (df_var (pv 3)) da_nil)) df_int) (dw_and1 (dt_cmpD cd_eqS (df_ix (df_var (pv 3)) df_int) df_str)))))))) (dss_one (ds_raise1 rfl (takes_of rfl rfl rfl rfl) x_NoForm hr (by decide) rfl (df_sub (df_fldN (pv 0) f_Reading_at) df_int))) dss_nil)
  (dss_cons (ds_for (passes_of rfl) rfl (di_str (df_var (pv 3))) (dg_name sc_Reading_read_whole.nd (i := 4) rfl (by first | exact .inl rfl | exact .inr rfl)) (dss_one (ds_if (dt_cmpD cd_notInQ (df_var (pv 4)) (df_kIx k_SIGNS df_str)) (dss_one (ds_raise1 rfl (takes_of rfl rfl rfl rfl) x_NoForm hr (by decide) rfl (df_sub (df_fldN (pv 0) f_Reading_at) df_int))) dss_nil)))
  (dss_cons (ds_if (dt_not (dt_chain cd_le cd_le (df_var (pv 1)) (df_intS rfl B.b_int (da_cons (df_var (pv 3)) da_nil)) (df_var (pv 2)))) (dss_one (ds_raise1 rfl (takes_of rfl rfl rfl rfl) x_NoForm hr (by decide) rfl (df_sub (df_fldN (pv 0) f_Reading_at) df_int))) dss_nil)
  (dss_one (ds_ret (de_f (df_intS rfl B.b_int (da_cons (df_var (pv 3)) da_nil)))))))))
noncomputable abbrev s_Reading_begins : Stmt := inClass (topS 54) 2
theorem sc_Reading_begins : FnScope ["self", "word"] ["self", "word"] (defScope s_Reading_begins) := ⟨rfl, rfl, rfl, by decide +kernel, rfl, by decide +kernel, by decide +kernel⟩
noncomputable def F_Reading_begins : SF := runsS 1 0 (sSeq (sIf (mAnd (mOpt2 hLt (gFldN 0 ["Reading"] "at") (mOpt hLen (aCons (gFldN 0 ["Reading"] "told") aNil))) (mOpt2 hEqS (mOpt2 hIx (gFldN 0 ["Reading"] "told") (gFldN 0 ["Reading"] "at")) (gVar 1))) (sSeq (sSetF 0 ["Reading"] "at" (mOpt2 hAdd (gFldN 0 ["Reading"] "at") (gC (.int 1))))
  (sRet (mMap Cell.fz (gC (.bl true))))) sNil)
  (sRet (mMap Cell.fz (gC (.bl false)))))
theorem d_Reading_begins {P : Program} {w : World} {K : Fg} {mg : Str → Option Value} {base : Heap} {f : Addr} {fd : FuncData} (F : FunA K "begins" "Reading.begins" s_Reading_begins f fd) (B : Bn mg) (f_Reading_at : ClsFs K mg ["Reading"] "at") (f_Reading_told : ClsFs K mg ["Reading"] "told") : FnOk P w K mg base CX0 1 f fd ["self", "word"] (selfSp ⟨K, P, w, mg⟩ F_Reading_begins) :=
  fn_s0 (k := 0) F sc_Reading_begins (m := 1) rfl rfl fun cdv A outer s H E hr =>
  (dss_cons (ds_if (dt_w (dw_and (dt_cmpD cd_lt (df_fldN (pv 0) f_Reading_at) (df_len rfl B.b_len (da_cons (df_fldN (pv 0) f_Reading_told) da_nil))) (dw_and1 (dt_cmpD cd_eqS (df_ix (df_fldN (pv 0) f_Reading_told) (df_fldN (pv 0) f_Reading_at)) (df_var (pv 1)))))) (dss_cons (ds_setF (pv 0) f_Reading_at (df_add (df_fldN (pv 0) f_Reading_at) df_int))
  (dss_one (ds_ret (de_f df_bl)))) dss_nil)
  (dss_one (ds_ret (de_f df_bl))))
noncomputable abbrev s_Reading_read_sign : Stmt := inClass (topS 54) 5
theorem sc_Reading_read_sign : FnScope ["self", "word"] ["self"] (defScope s_Reading_read_sign) := ⟨rfl, rfl, rfl, by decide +kernel, rfl, by decide +kernel, by decide +kernel⟩
noncomputable def F_Reading_read_sign : SF := runsS 0 1 (sSeq (sSet 1 (gMethS "Reading" "taken" F_Reading_taken 0 aNil))
  (sSeq (sIf (mOpt2 hEqS (gVar 1) (gC (.str "blank"))) (sRet (mMap Cell.fz (gC (.str " ")))) sNil)
  (sSeq (sIf (mOpt2 hNeS (mOpt hLen (aCons (gVar 1) aNil)) (gC (.int 1))) (sRaise1 "NoForm" "at" (mOpt2 hSub (gFldN 0 ["Reading"] "at") (gC (.int 1)))) sNil)
  (sRet (gTake 1)))))
theorem d_Reading_read_sign {P : Program} {w : World} {K : Fg} {mg : Str → Option Value} {base : Heap} {f : Addr} {fd : FuncData} (F : FunA K "read_sign" "Reading.read_sign" s_Reading_read_sign f fd) (B : Bn mg) (c_Reading_taken : DSMet P w K mg base (L2.CX P w) 3 "Reading" "taken" F_Reading_taken) (f_Reading_at : ClsFs K mg ["Reading"] "at") (x_NoForm : DExc P w K mg base 1 "NoForm" "at") : FnOk P w K mg base (L2.CX P w) 4 f fd ["self"] (selfSp ⟨K, P, w, mg⟩ F_Reading_read_sign) :=
  fn_sX (k := 3) F sc_Reading_read_sign (m := 0) rfl rfl fun cdv A outer s H E hr =>
  (dss_cons (ds_set (i := 1) sc_Reading_read_sign.nd rfl (by first | exact .inl rfl | exact .inr rfl) (de_methS0 c_Reading_taken hr (by decide) (pass_tk (takes_of rfl rfl rfl rfl)) (pv 0)))
  (dss_cons (ds_if (dt_cmpD cd_eqS (df_var (pv 1)) df_str) (dss_one (ds_ret (de_f df_str))) dss_nil)
  (dss_cons (ds_if (dt_cmpD cd_neS (df_len rfl B.b_len (da_cons (df_var (pv 1)) da_nil)) df_int) (dss_one (ds_raise1 rfl (takes_of rfl rfl rfl rfl) x_NoForm hr (by decide) rfl (df_sub (df_fldN (pv 0) f_Reading_at) df_int))) dss_nil)
  (dss_one (ds_ret (de_take (pv 1)))))))
noncomputable abbrev s_read_tail : Stmt := topS 55
theorem sc_read_tail : FnScope ["reading", "side", "sides", "width", "fill"] ["reading", "side", "sides"] (defScope s_read_tail) := ⟨rfl, rfl, rfl, by decide +kernel, rfl, by decide +kernel, by decide +kernel⟩
noncomputable def F_read_tail : SF := runsS 2 2 (sSeq (sSet 3 (mMap Cell.fz (gC (.int 0))))
  (sSeq (sSet 4 (mMap Cell.fz (gC (.str " "))))
  (sSeq (sIf (mOpt hBl (mOpt Cell.toD (gMethS "Reading" "begins" F_Reading_begins 0 (aCons (gC (.str "width")) aNil)))) (sSet 3 (gMethS "Reading" "read_whole" F_Reading_read_whole 0 (aCons (gC (.int 1)) (aCons (gC (.int 40)) aNil)))) sNil)
  (sSeq (sIf (mOpt hBl (mOpt Cell.toD (gMethS "Reading" "begins" F_Reading_begins 0 (aCons (gC (.str "fill")) aNil)))) (sSet 4 (gMethS "Reading" "read_sign" F_Reading_read_sign 0 aNil)) sNil)
  (sSeq (sIf (mOpt hBl (mOpt Cell.toD (gMethS "Reading" "begins" F_Reading_begins 0 (aCons (gC (.str "side")) aNil)))) (sSet 1 (gMethS "Reading" "one_of" F_Reading_one_of 0 (aCons (gVar 2) aNil))) sNil)
  (sRet (mMap Cell.fz (mMap D.tup (mOpt okLen (aCons (gVar 3) (aCons (gVar 4) (aCons (gVar 1) (aCons (mOpt Cell.toD (gMethS "Reading" "begins" F_Reading_begins 0 (aCons (gC (.str "strict")) aNil))) aNil)))))))))))))
theorem d_read_tail {P : Program} {w : World} {K : Fg} {mg : Str → Option Value} {base : Heap} {f : Addr} {fd : FuncData} (F : FunA K "read_tail" "read_tail" s_read_tail f fd) (B : Bn mg) (c_Reading_begins : DSMet P w K mg base CX0 1 "Reading" "begins" F_Reading_begins) (k_MOST_WIDTH : ∃ t, mg "MOST_WIDTH" = some (.int 40 t)) (c_Reading_read_whole : DSMet P w K mg base (L2.CX P w) 4 "Reading" "read_whole" F_Reading_read_whole) (c_Reading_read_sign : DSMet P w K mg base (L2.CX P w) 4 "Reading" "read_sign" F_Reading_read_sign) (c_Reading_one_of : DSMet P w K mg base (L2.CX P w) 4 "Reading" "one_of" F_Reading_one_of) : FnOk P w K mg base (L2.CX P w) 5 f fd ["reading", "side", "sides"] (selfSp ⟨K, P, w, mg⟩ F_read_tail) :=
  fn_sX (k := 4) F sc_read_tail (m := 2) rfl rfl fun cdv A outer s H E hr =>
  (dss_cons (ds_set (i := 3) sc_read_tail.nd rfl (by first | exact .inl rfl | exact .inr rfl) (de_f df_int))
  (dss_cons (ds_set (i := 4) sc_read_tail.nd rfl (by first | exact .inl rfl | exact .inr rfl) (de_f df_str))
  (dss_cons (ds_if (dt_val (df_e (de_methS c_Reading_begins hr (by decide) pass0 (pv 0) (da_cons df_str da_nil)))) (dss_one (ds_set (i := 3) sc_read_tail.nd rfl (by first | exact .inl rfl | exact .inr rfl) (de_methS c_Reading_read_whole hr (by decide) (pass_tk (takes_of rfl rfl rfl rfl)) (pv 0) (da_cons df_int (da_cons (df_globI k_MOST_WIDTH) da_nil))))) dss_nil)
  (dss_cons (ds_if (dt_val (df_e (de_methS c_Reading_begins hr (by decide) pass0 (pv 0) (da_cons df_str da_nil)))) (dss_one (ds_set (i := 4) sc_read_tail.nd rfl (by first | exact .inl rfl | exact .inr rfl) (de_methS0 c_Reading_read_sign hr (by decide) (pass_tk (takes_of rfl rfl rfl rfl)) (pv 0)))) dss_nil)
  (dss_cons (ds_if (dt_val (df_e (de_methS c_Reading_begins hr (by decide) pass0 (pv 0) (da_cons df_str da_nil)))) (dss_one (ds_set (i := 1) sc_read_tail.nd rfl (by first | exact .inl rfl | exact .inr rfl) (de_methS c_Reading_one_of hr (by decide) (pass_tk (takes_of rfl rfl rfl rfl)) (pv 0) (da_cons (df_var (pv 2)) da_nil)))) dss_nil)
  (dss_one (ds_ret (de_f (df_tup (da_cons (df_var (pv 3)) (da_cons (df_var (pv 4)) (da_cons (df_var (pv 1)) (da_cons (df_e (de_methS c_Reading_begins hr (by decide) pass0 (pv 0) (da_cons df_str da_nil))) da_nil)))))))))))))
noncomputable abbrev s_Form_init : Stmt := inClass (topS 26) 0
theorem sc_Form_init : FnScope ["self", "width", "fill", "side", "strict"] ["self", "width", "fill", "side", "strict"] (defScope s_Form_init) := ⟨rfl, rfl, rfl, by decide +kernel, rfl, by decide +kernel, by decide +kernel⟩
noncomputable def F_Form_init : SF := runsS 4 0 (sSeq (sSetF 0 ["WordForm", "NumberForm", "ChoiceForm"] "width" (gVar 1))
  (sSeq (sSetF 0 ["WordForm", "NumberForm", "ChoiceForm"] "fill" (gVar 2))
  (sSeq (sSetF 0 ["WordForm", "NumberForm", "ChoiceForm"] "side" (gVar 3))
  (sSetF 0 ["WordForm", "NumberForm", "ChoiceForm"] "strict" (gVar 4)))))
theorem d_Form_init {P : Program} {w : World} {K : Fg} {mg : Str → Option Value} {base : Heap} {f : Addr} {fd : FuncData} (F : FunA K "__init__" "Form.__init__" s_Form_init f fd) (B : Bn mg) (f_WordForm_NumberForm_ChoiceForm_width : ClsFs K mg ["WordForm", "NumberForm", "ChoiceForm"] "width") (f_WordForm_NumberForm_ChoiceForm_fill : ClsFs K mg ["WordForm", "NumberForm", "ChoiceForm"] "fill") (f_WordForm_NumberForm_ChoiceForm_side : ClsFs K mg ["WordForm", "NumberForm", "ChoiceForm"] "side") (f_WordForm_NumberForm_ChoiceForm_strict : ClsFs K mg ["WordForm", "NumberForm", "ChoiceForm"] "strict") : FnOk P w K mg base CX0 1 f fd ["self", "width", "fill", "side", "strict"] (selfSp ⟨K, P, w, mg⟩ F_Form_init) :=
  fn_s0 (k := 0) F sc_Form_init (m := 4) rfl rfl fun cdv A outer s H E hr =>
  (dss_cons (ds_setF (pv 0) f_WordForm_NumberForm_ChoiceForm_width (df_var (pv 1)))
  (dss_cons (ds_setF (pv 0) f_WordForm_NumberForm_ChoiceForm_fill (df_var (pv 2)))
  (dss_cons (ds_setF (pv 0) f_WordForm_NumberForm_ChoiceForm_side (df_var (pv 3)))
  (dss_one (ds_setF (pv 0) f_WordForm_NumberForm_ChoiceForm_strict (df_var (pv 4)))))))
noncomputable abbrev s_NumberForm_init : Stmt := inClass (topS 39) 0
theorem sc_NumberForm_init : FnScope ["self", "figures", "places", "base", "sign", "size", "mark", "point", "way", "width", "fill", "side", "strict"] ["self", "figures", "places", "base", "sign", "size", "mark", "point", "way", "width", "fill", "side", "strict"] (defScope s_NumberForm_init) := ⟨rfl, rfl, rfl, by decide +kernel, rfl, by decide +kernel, by decide +kernel⟩
noncomputable def F_NumberForm_init : SF := runsS 12 0 (sSeq (sDrop (mOpt Cell.toD (gCallS F_Form_init 0 (aCons (gVar 9) (aCons (gVar 10) (aCons (gVar 11) (aCons (gVar 12) aNil)))))))
  (sSeq (sSetF 0 ["NumberForm"] "figures" (gVar 1))
  (sSeq (sSetF 0 ["NumberForm"] "places" (gVar 2))
  (sSeq (sSetF 0 ["NumberForm"] "base" (gVar 3))
  (sSeq (sSetF 0 ["NumberForm"] "sign" (gVar 4))
  (sSeq (sSetF 0 ["NumberForm"] "size" (gVar 5))
  (sSeq (sSetF 0 ["NumberForm"] "mark" (gVar 6))
  (sSeq (sSetF 0 ["NumberForm"] "point" (gVar 7))
  (sSetF 0 ["NumberForm"] "way" (gVar 8))))))))))
theorem d_NumberForm_init {P : Program} {w : World} {K : Fg} {mg : Str → Option Value} {base : Heap} {f : Addr} {fd : FuncData} (F : FunA K "__init__" "NumberForm.__init__" s_NumberForm_init f fd) (B : Bn mg) (b_Form_init : DCls P w K mg base CX0 1 "Form" "__init__" F_Form_init) (f_NumberForm_figures : ClsFs K mg ["NumberForm"] "figures") (f_NumberForm_places : ClsFs K mg ["NumberForm"] "places") (f_NumberForm_base : ClsFs K mg ["NumberForm"] "base") (f_NumberForm_sign : ClsFs K mg ["NumberForm"] "sign") (f_NumberForm_size : ClsFs K mg ["NumberForm"] "size") (f_NumberForm_mark : ClsFs K mg ["NumberForm"] "mark") (f_NumberForm_point : ClsFs K mg ["NumberForm"] "point") (f_NumberForm_way : ClsFs K mg ["NumberForm"] "way") : FnOk P w K mg base CX0 2 f fd ["self", "figures", "places", "base", "sign", "size", "mark", "point", "way", "width", "fill", "side", "strict"] (selfSp ⟨K, P, w, mg⟩ F_NumberForm_init) :=
  fn_s0 (k := 1) F sc_NumberForm_init (m := 12) rfl rfl fun cdv A outer s H E hr =>
  (dss_cons (ds_expr (df_e (de_clsCall b_Form_init hr (by decide) pass0 rfl (pv 0) (da_cons (df_var (pv 9)) (da_cons (df_var (pv 10)) (da_cons (df_var (pv 11)) (da_cons (df_var (pv 12)) da_nil)))))))
  (dss_cons (ds_setF (pv 0) f_NumberForm_figures (df_var (pv 1)))
  (dss_cons (ds_setF (pv 0) f_NumberForm_places (df_var (pv 2)))
  (dss_cons (ds_setF (pv 0) f_NumberForm_base (df_var (pv 3)))
  (dss_cons (ds_setF (pv 0) f_NumberForm_sign (df_var (pv 4)))
  (dss_cons (ds_setF (pv 0) f_NumberForm_size (df_var (pv 5)))
  (dss_cons (ds_setF (pv 0) f_NumberForm_mark (df_var (pv 6)))
  (dss_cons (ds_setF (pv 0) f_NumberForm_point (df_var (pv 7)))
  (dss_one (ds_setF (pv 0) f_NumberForm_way (df_var (pv 8))))))))))))
noncomputable abbrev s_allow_strict : Stmt := topS 56
theorem sc_allow_strict : FnScope ["reading", "strict", "least", "width"] ["reading", "strict", "least", "width"] (defScope s_allow_strict) := ⟨rfl, rfl, rfl, by decide +kernel, rfl, by decide +kernel, by decide +kernel⟩
noncomputable def F_allow_strict : SF := runsS 3 0 (sIf (mAnd (mOpt hBl (gVar 1)) (mOpt2 hGt (gVar 2) (gVar 3))) (sRaise1 "NoForm" "at" (mOpt2 hSub (gFldN 0 ["Reading"] "at") (gC (.int 1)))) sNil)
theorem d_allow_strict {P : Program} {w : World} {K : Fg} {mg : Str → Option Value} {base : Heap} {f : Addr} {fd : FuncData} (F : FunA K "allow_strict" "allow_strict" s_allow_strict f fd) (B : Bn mg) (f_Reading_at : ClsFs K mg ["Reading"] "at") (x_NoForm : DExc P w K mg base 1 "NoForm" "at") : FnOk P w K mg base (L2.CX P w) 3 f fd ["reading", "strict", "least", "width"] (selfSp ⟨K, P, w, mg⟩ F_allow_strict) :=
  fn_sX (k := 2) F sc_allow_strict (m := 3) rfl rfl fun cdv A outer s H E hr =>
  (dss_one (ds_if (dt_w (dw_and (dt_val (df_var (pv 1))) (dw_and1 (dt_cmpD cd_gt (df_var (pv 2)) (df_var (pv 3)))))) (dss_one (ds_raise1 rfl (takes_of rfl rfl rfl rfl) x_NoForm hr (by decide) rfl (df_sub (df_fldN (pv 0) f_Reading_at) df_int))) dss_nil))
noncomputable abbrev s_ends_of : Stmt := topS 24
theorem sc_ends_of : FnScope ["style", "below"] ["style", "below"] (defScope s_ends_of) := ⟨rfl, rfl, rfl, by decide +kernel, rfl, by decide +kernel, by decide +kernel⟩
noncomputable def F_ends_of : List D → Res Cell := runs 2 0 (sSeq (sIf (mOpt hBl (gVar 1)) (sRet (mMap Cell.fz (mOpt (hTab kv_BELOW) (gVar 0)))) sNil)
  (sRet (mMap Cell.fz (mOpt (hTab kv_ABOVE) (gVar 0)))))
theorem d_ends_of {P : Program} {w : World} {K : Fg} {mg : Str → Option Value} {base : Heap} {f : Addr} {fd : FuncData} (F : FunA K "ends_of" "ends_of" s_ends_of f fd) (B : Bn mg) (k_BELOW : KTab ⟨K, P, w, mg⟩ "BELOW" kv_BELOW) (k_ABOVE : KTab ⟨K, P, w, mg⟩ "ABOVE" kv_ABOVE) : FnOk P w K mg base CX0 1 f fd ["style", "below"] (pureSp ⟨K, P, w, mg⟩ F_ends_of) :=
  fn_p0 (k := 0) F sc_ends_of rfl fun cdv A outer s H E hr =>
  (dss_cons (ds_if (dt_val (df_var (pv 1))) (dss_one (ds_ret (de_f (df_kIx k_BELOW (df_var (pv 0)))))) dss_nil)
  (dss_one (ds_ret (de_f (df_kIx k_ABOVE (df_var (pv 0)))))))
noncomputable abbrev s_power_of : Stmt := topS 18
theorem sc_power_of : FnScope ["base", "times", "found", "k"] ["base", "times"] (defScope s_power_of) := ⟨rfl, rfl, rfl, by decide +kernel, rfl, by decide +kernel, by decide +kernel⟩
noncomputable def F_power_of : List D → Res Cell := runs 2 2 (sSeq (sSet 2 (mMap Cell.fz (gC (.int 1))))
  (sSeq (sFor (mOpt hRng1 (aCons (gVar 1) aNil)) (gtName 3) (sSet 2 (mMap Cell.fz (mOpt2 hMul (gVar 2) (gVar 0)))))
  (sRet (gTake 2))))
theorem d_power_of {P : Program} {w : World} {K : Fg} {mg : Str → Option Value} {base : Heap} {f : Addr} {fd : FuncData} (F : FunA K "power_of" "power_of" s_power_of f fd) (B : Bn mg) : FnOk P w K mg base CX0 1 f fd ["base", "times"] (pureSp ⟨K, P, w, mg⟩ F_power_of) :=
  fn_p0 (k := 0) F sc_power_of rfl fun cdv A outer s H E hr =>
  (dss_cons (ds_set (i := 2) sc_power_of.nd rfl (by first | exact .inl rfl | exact .inr rfl) (de_f df_int))
  (dss_cons (ds_for PassesOwn.never rfl (di_range1 rfl B.b_range (da_cons (df_var (pv 1)) da_nil)) (dg_name sc_power_of.nd (i := 3) rfl (by first | exact .inl rfl | exact .inr rfl)) (dss_one (ds_set (i := 2) sc_power_of.nd rfl (by first | exact .inl rfl | exact .inr rfl) (de_f (df_mul (df_var (pv 2)) (df_var (pv 0)))))))
  (dss_one (ds_ret (de_take (pv 2))))))
noncomputable abbrev s_marks_in : Stmt := topS 14
theorem sc_marks_in : FnScope ["many", "size"] ["many", "size"] (defScope s_marks_in) := ⟨rfl, rfl, rfl, by decide +kernel, rfl, by decide +kernel, by decide +kernel⟩
noncomputable def F_marks_in : List D → Res Cell := runs 2 0 (sSeq (sIf (mOpt2 hEqS (gVar 1) (gC (.int 0))) (sRet (mMap Cell.fz (gC (.int 0)))) sNil)
  (sRet (mMap Cell.fz (mOpt2 hFdiv (mOpt2 hSub (gVar 0) (gC (.int 1))) (gVar 1)))))
theorem d_marks_in {P : Program} {w : World} {K : Fg} {mg : Str → Option Value} {base : Heap} {f : Addr} {fd : FuncData} (F : FunA K "marks_in" "marks_in" s_marks_in f fd) (B : Bn mg) : FnOk P w K mg base CX0 1 f fd ["many", "size"] (pureSp ⟨K, P, w, mg⟩ F_marks_in) :=
  fn_p0 (k := 0) F sc_marks_in rfl fun cdv A outer s H E hr =>
  (dss_cons (ds_if (dt_cmpD cd_eqS (df_var (pv 1)) df_int) (dss_one (ds_ret (de_f df_int))) dss_nil)
  (dss_one (ds_ret (de_f (df_fdiv (df_sub (df_var (pv 0)) df_int) (df_var (pv 1)))))))
noncomputable abbrev s_grouped : Stmt := topS 15
theorem sc_grouped : FnScope ["text", "size", "mark", "first", "found", "k", "at"] ["text", "size", "mark"] (defScope s_grouped) := ⟨rfl, rfl, rfl, by decide +kernel, rfl, by decide +kernel, by decide +kernel⟩
noncomputable def F_grouped : List D → Res Cell := runs 3 4 (sSeq (sSet 3 (mMap Cell.fz (mOpt2 hSub (mOpt hLen (aCons (gVar 0) aNil)) (mOpt2 hMul (gVar 1) (mOpt Cell.toD (gCall F_marks_in (aCons (mOpt hLen (aCons (gVar 0) aNil)) (aCons (gVar 1) aNil))))))))
  (sSeq (sSet 4 (mMap Cell.fz (gSlS (gVar 0) (mPart none) (mPart (some (gVar 3))))))
  (sSeq (sFor (mOpt hRng1 (aCons (mOpt Cell.toD (gCall F_marks_in (aCons (mOpt hLen (aCons (gVar 0) aNil)) (aCons (gVar 1) aNil)))) aNil)) (gtName 5) (sSeq (sSet 6 (mMap Cell.fz (mOpt2 hAdd (gVar 3) (mOpt2 hMul (gVar 1) (gVar 5)))))
  (sSet 4 (mMap Cell.fz (mOpt2 hAdd (mOpt2 hAdd (gVar 4) (gVar 2)) (gSlS (gVar 0) (mPart (some (gVar 6))) (mPart (some (mOpt2 hAdd (gVar 6) (gVar 1))))))))))
  (sRet (gTake 4)))))
theorem d_grouped {P : Program} {w : World} {K : Fg} {mg : Str → Option Value} {base : Heap} {f : Addr} {fd : FuncData} (F : FunA K "grouped" "grouped" s_grouped f fd) (B : Bn mg) (c_marks_in : DCal P w K mg base CX0 1 "marks_in" F_marks_in) : FnOk P w K mg base CX0 2 f fd ["text", "size", "mark"] (pureSp ⟨K, P, w, mg⟩ F_grouped) :=
  fn_p0 (k := 1) F sc_grouped rfl fun cdv A outer s H E hr =>
  (dss_cons (ds_set (i := 3) sc_grouped.nd rfl (by first | exact .inl rfl | exact .inr rfl) (de_f (df_sub (df_len rfl B.b_len (da_cons (df_var (pv 0)) da_nil)) (df_mul (df_var (pv 1)) (df_e (de_call c_marks_in hr (by decide) rfl (da_cons (df_len rfl B.b_len (da_cons (df_var (pv 0)) da_nil)) (da_cons (df_var (pv 1)) da_nil))))))))
  (dss_cons (ds_set (i := 4) sc_grouped.nd rfl (by first | exact .inl rfl | exact .inr rfl) (de_f (df_slS (df_var (pv 0)) dp_none (dp_some (df_var (pv 3))))))
  (dss_cons (ds_for PassesOwn.never rfl (di_range1 rfl B.b_range (da_cons (df_e (de_call c_marks_in hr (by decide) rfl (da_cons (df_len rfl B.b_len (da_cons (df_var (pv 0)) da_nil)) (da_cons (df_var (pv 1)) da_nil)))) da_nil)) (dg_name sc_grouped.nd (i := 5) rfl (by first | exact .inl rfl | exact .inr rfl)) (dss_cons (ds_set (i := 6) sc_grouped.nd rfl (by first | exact .inl rfl | exact .inr rfl) (de_f (df_add (df_var (pv 3)) (df_mul (df_var (pv 1)) (df_var (pv 5))))))
  (dss_one (ds_set (i := 4) sc_grouped.nd rfl (by first | exact .inl rfl | exact .inr rfl) (de_f (df_add (df_add (df_var (pv 4)) (df_var (pv 2))) (df_slS (df_var (pv 0)) (dp_some (df_var (pv 6))) (dp_some (df_add (df_var (pv 6)) (df_var (pv 1)))))))))))
  (dss_one (ds_ret (de_take (pv 4)))))))
noncomputable abbrev s_figures_of : Stmt := topS 12
theorem sc_figures_of : FnScope ["number", "base", "text"] ["number", "base"] (defScope s_figures_of) := ⟨rfl, rfl, rfl, by decide +kernel, rfl, by decide +kernel, by decide +kernel⟩
noncomputable def F_figures_of : List D → Res Cell := runs 2 1 (sSeq (sSet 2 (mMap Cell.fz (mOpt2 hIx (gC (.str "0123456789abcdef")) (mOpt2 hMod (gVar 0) (gVar 1)))))
  (sSeq (sWhile (mOpt2 hGe (gVar 0) (gVar 1)) (sSeq (sSet 0 (mMap Cell.fz (mOpt2 hFdiv (gVar 0) (gVar 1))))
  (sSet 2 (mMap Cell.fz (mOpt2 hAdd (mOpt2 hIx (gC (.str "0123456789abcdef")) (mOpt2 hMod (gVar 0) (gVar 1))) (gVar 2))))))
  (sRet (gTake 2))))
theorem d_figures_of {P : Program} {w : World} {K : Fg} {mg : Str → Option Value} {base : Heap} {f : Addr} {fd : FuncData} (F : FunA K "figures_of" "figures_of" s_figures_of f fd) (B : Bn mg) (k_FIGURES : ∃ t, mg "FIGURES" = some (.str "0123456789abcdef" t)) : FnOk P w K mg base CX0 1 f fd ["number", "base"] (pureSp ⟨K, P, w, mg⟩ F_figures_of) :=
  fn_p0 (k := 0) F sc_figures_of rfl fun cdv A outer s H E hr =>
  (dss_cons (ds_set (i := 2) sc_figures_of.nd rfl (by first | exact .inl rfl | exact .inr rfl) (de_f (df_ix (df_globS k_FIGURES) (df_mod (df_var (pv 0)) (df_var (pv 1))))))
  (dss_cons (ds_while PassesOwn.never (dt_cmpD cd_ge (df_var (pv 0)) (df_var (pv 1))) (dss_cons (ds_set (i := 0) sc_figures_of.nd rfl (by first | exact .inl rfl | exact .inr rfl) (de_f (df_fdiv (df_var (pv 0)) (df_var (pv 1)))))
  (dss_one (ds_set (i := 2) sc_figures_of.nd rfl (by first | exact .inl rfl | exact .inr rfl) (de_f (df_add (df_ix (df_globS k_FIGURES) (df_mod (df_var (pv 0)) (df_var (pv 1)))) (df_var (pv 2))))))))
  (dss_one (ds_ret (de_take (pv 2))))))
noncomputable abbrev s_body_of : Stmt := topS 20
theorem sc_body_of : FnScope ["number", "base", "places", "point", "size", "mark", "whole", "rest", "body", "behind"] ["number", "base", "places", "point", "size", "mark"] (defScope s_body_of) := ⟨rfl, rfl, rfl, by decide +kernel, rfl, by decide +kernel, by decide +kernel⟩
noncomputable def F_body_of : List D → Res Cell := runs 6 4 (sSeq (sAsg (mOpt hDivmod (aCons (gVar 0) (aCons (mOpt Cell.toD (gCall F_power_of (aCons (gVar 1) (aCons (gVar 2) aNil)))) aNil))) (gtTup 2 (gtCons (gtName 6) (gtCons (gtName 7) gtNil))))
  (sSeq (sSet 8 (gCall F_grouped (aCons (mOpt Cell.toD (gCall F_figures_of (aCons (gVar 6) (aCons (gVar 1) aNil)))) (aCons (gVar 4) (aCons (gVar 5) aNil)))))
  (sSeq (sIf (mOpt2 hEqS (gVar 2) (gC (.int 0))) (sRet (gTake 8)) sNil)
  (sSeq (sSet 9 (gCall F_figures_of (aCons (gVar 7) (aCons (gVar 1) aNil))))
  (sRet (mMap Cell.fz (mOpt2 hAdd (mOpt2 hAdd (mOpt2 hAdd (gVar 8) (gVar 3)) (mOpt2 hStrMul (gC (.str "0")) (mOpt2 hSub (gVar 2) (mOpt hLen (aCons (gVar 9) aNil))))) (gVar 9))))))))
theorem d_body_of {P : Program} {w : World} {K : Fg} {mg : Str → Option Value} {base : Heap} {f : Addr} {fd : FuncData} (F : FunA K "body_of" "body_of" s_body_of f fd) (B : Bn mg) (c_power_of : DCal P w K mg base CX0 1 "power_of" F_power_of) (c_grouped : DCal P w K mg base CX0 2 "grouped" F_grouped) (c_figures_of : DCal P w K mg base CX0 1 "figures_of" F_figures_of) : FnOk P w K mg base CX0 3 f fd ["number", "base", "places", "point", "size", "mark"] (pureSp ⟨K, P, w, mg⟩ F_body_of) :=
  fn_p0 (k := 2) F sc_body_of rfl fun cdv A outer s H E hr =>
  (dss_cons (ds_asg (df_divmod rfl B.b_divmod (da_cons (df_var (pv 0)) (da_cons (df_e (de_call c_power_of hr (by decide) rfl (da_cons (df_var (pv 1)) (da_cons (df_var (pv 2)) da_nil)))) da_nil))) (dg_tup rfl (dgs_cons (dg_name sc_body_of.nd (i := 6) rfl (by first | exact .inl rfl | exact .inr rfl)) (dgs_cons (dg_name sc_body_of.nd (i := 7) rfl (by first | exact .inl rfl | exact .inr rfl)) dgs_nil))) (hnx := (nx_tup (nx_cons nx_name (nx_cons nx_name nx_nil)))))
  (dss_cons (ds_set (i := 8) sc_body_of.nd rfl (by first | exact .inl rfl | exact .inr rfl) (de_call c_grouped hr (by decide) rfl (da_cons (df_e (de_call c_figures_of hr (by decide) rfl (da_cons (df_var (pv 6)) (da_cons (df_var (pv 1)) da_nil)))) (da_cons (df_var (pv 4)) (da_cons (df_var (pv 5)) da_nil)))))
  (dss_cons (ds_if (dt_cmpD cd_eqS (df_var (pv 2)) df_int) (dss_one (ds_ret (de_take (pv 8)))) dss_nil)
  (dss_cons (ds_set (i := 9) sc_body_of.nd rfl (by first | exact .inl rfl | exact .inr rfl) (de_call c_figures_of hr (by decide) rfl (da_cons (df_var (pv 7)) (da_cons (df_var (pv 1)) da_nil))))
  (dss_one (ds_ret (de_f (df_add (df_add (df_add (df_var (pv 8)) (df_var (pv 3))) (df_strMul df_str (df_sub (df_var (pv 2)) (df_len rfl B.b_len (da_cons (df_var (pv 9)) da_nil))))) (df_var (pv 9))))))))))
noncomputable abbrev s_NumberForm_lead_and_rest : Stmt := inClass (topS 39) 2
theorem sc_NumberForm_lead_and_rest : FnScope ["self", "steps", "lead", "tail", "body"] ["self", "steps"] (defScope s_NumberForm_lead_and_rest) := ⟨rfl, rfl, rfl, by decide +kernel, rfl, by decide +kernel, by decide +kernel⟩
noncomputable def F_NumberForm_lead_and_rest : List D → Res Cell := runs 2 3 (sSeq (sAsg (mOpt Cell.toD (gCall F_ends_of (aCons (gFldN 0 ["NumberForm"] "sign") (aCons (mMap D.bl (mOpt2 hLt (gVar 1) (gC (.int 0)))) aNil)))) (gtTup 2 (gtCons (gtName 2) (gtCons (gtName 3) gtNil))))
  (sSeq (sSet 4 (gCall F_body_of (aCons (mOpt hAbs (aCons (gVar 1) aNil)) (aCons (gFldN 0 ["NumberForm"] "base") (aCons (gFldN 0 ["NumberForm"] "places") (aCons (gFldN 0 ["NumberForm"] "point") (aCons (gFldN 0 ["NumberForm"] "size") (aCons (gFldN 0 ["NumberForm"] "mark") aNil))))))))
  (sRet (mMap Cell.fz (mMap D.tup (mOpt okLen (aCons (gVar 2) (aCons (mOpt2 hAdd (gVar 4) (gVar 3)) aNil))))))))
theorem d_NumberForm_lead_and_rest {P : Program} {w : World} {K : Fg} {mg : Str → Option Value} {base : Heap} {f : Addr} {fd : FuncData} (F : FunA K "lead_and_rest" "NumberForm.lead_and_rest" s_NumberForm_lead_and_rest f fd) (B : Bn mg) (c_ends_of : DCal P w K mg base CX0 1 "ends_of" F_ends_of) (f_NumberForm_sign : ClsFs K mg ["NumberForm"] "sign") (c_body_of : DCal P w K mg base CX0 3 "body_of" F_body_of) (f_NumberForm_base : ClsFs K mg ["NumberForm"] "base") (f_NumberForm_places : ClsFs K mg ["NumberForm"] "places") (f_NumberForm_point : ClsFs K mg ["NumberForm"] "point") (f_NumberForm_size : ClsFs K mg ["NumberForm"] "size") (f_NumberForm_mark : ClsFs K mg ["NumberForm"] "mark") : FnOk P w K mg base CX0 4 f fd ["self", "steps"] (pureSp ⟨K, P, w, mg⟩ F_NumberForm_lead_and_rest) :=
  fn_p0 (k := 3) F sc_NumberForm_lead_and_rest rfl fun cdv A outer s H E hr =>
  (dss_cons (ds_asg (df_e (de_call c_ends_of hr (by decide) rfl (da_cons (df_fldN (pv 0) f_NumberForm_sign) (da_cons (df_cmpD cd_lt (df_var (pv 1)) df_int) da_nil)))) (dg_tup rfl (dgs_cons (dg_name sc_NumberForm_lead_and_rest.nd (i := 2) rfl (by first | exact .inl rfl | exact .inr rfl)) (dgs_cons (dg_name sc_NumberForm_lead_and_rest.nd (i := 3) rfl (by first | exact .inl rfl | exact .inr rfl)) dgs_nil))) (hnx := (nx_tup (nx_cons nx_name (nx_cons nx_name nx_nil)))))
  (dss_cons (ds_set (i := 4) sc_NumberForm_lead_and_rest.nd rfl (by first | exact .inl rfl | exact .inr rfl) (de_call c_body_of hr (by decide) rfl (da_cons (df_abs rfl B.b_abs (da_cons (df_var (pv 1)) da_nil)) (da_cons (df_fldN (pv 0) f_NumberForm_base) (da_cons (df_fldN (pv 0) f_NumberForm_places) (da_cons (df_fldN (pv 0) f_NumberForm_point) (da_cons (df_fldN (pv 0) f_NumberForm_size) (da_cons (df_fldN (pv 0) f_NumberForm_mark) da_nil))))))))
  (dss_one (ds_ret (de_f (df_tup (da_cons (df_var (pv 2)) (da_cons (df_add (df_var (pv 4)) (df_var (pv 3))) da_nil))))))))
noncomputable abbrev s_is_whole : Stmt := topS 17
theorem sc_is_whole : FnScope ["thing"] ["thing"] (defScope s_is_whole) := ⟨rfl, rfl, rfl, by decide +kernel, rfl, by decide +kernel, by decide +kernel⟩
noncomputable def F_is_whole : List D → Res Cell := runs 1 0 (sRet (mMap Cell.fz (vAnd (mOpt hIsi (aCons (gVar 0) (aCons (gC (.ty "int")) aNil))) (mOpt vNot (mOpt hIsi (aCons (gVar 0) (aCons (gC (.ty "bool")) aNil)))))))
theorem d_is_whole {P : Program} {w : World} {K : Fg} {mg : Str → Option Value} {base : Heap} {f : Addr} {fd : FuncData} (F : FunA K "is_whole" "is_whole" s_is_whole f fd) (B : Bn mg) : FnOk P w K mg base CX0 1 f fd ["thing"] (pureSp ⟨K, P, w, mg⟩ F_is_whole) :=
  fn_p0 (k := 0) F sc_is_whole rfl fun cdv A outer s H E hr =>
  (dss_one (ds_ret (de_f (df_and (df_isi rfl B.b_isinstance (da_cons (df_var (pv 0)) (da_cons (df_ty B.b_int (by decide +kernel)) da_nil))) (df_one (df_not (df_isi rfl B.b_isinstance (da_cons (df_var (pv 0)) (da_cons (df_ty B.b_bool (by decide +kernel)) da_nil)))))))))
noncomputable abbrev s_divisor_of : Stmt := topS 30
theorem sc_divisor_of : FnScope ["one", "other", "rest"] ["one", "other"] (defScope s_divisor_of) := ⟨rfl, rfl, rfl, by decide +kernel, rfl, by decide +kernel, by decide +kernel⟩
noncomputable def F_divisor_of : List D → Res Cell := runs 2 1 (sSeq (sSet 0 (mMap Cell.fz (mOpt hAbs (aCons (gVar 0) aNil))))
  (sSeq (sSet 1 (mMap Cell.fz (mOpt hAbs (aCons (gVar 1) aNil))))
  (sSeq (sWhile (mOpt2 hGt (gVar 1) (gC (.int 0))) (sSeq (sSet 2 (mMap Cell.fz (mOpt2 hMod (gVar 0) (gVar 1))))
  (sSeq (sSet 0 (mMap Cell.fz (gVar 1)))
  (sSet 1 (mMap Cell.fz (gVar 2))))))
  (sRet (gTake 0)))))
theorem d_divisor_of {P : Program} {w : World} {K : Fg} {mg : Str → Option Value} {base : Heap} {f : Addr} {fd : FuncData} (F : FunA K "divisor_of" "divisor_of" s_divisor_of f fd) (B : Bn mg) : FnOk P w K mg base CX0 1 f fd ["one", "other"] (pureSp ⟨K, P, w, mg⟩ F_divisor_of) :=
  fn_p0 (k := 0) F sc_divisor_of rfl fun cdv A outer s H E hr =>
  (dss_cons (ds_set (i := 0) sc_divisor_of.nd rfl (by first | exact .inl rfl | exact .inr rfl) (de_f (df_abs rfl B.b_abs (da_cons (df_var (pv 0)) da_nil))))
  (dss_cons (ds_set (i := 1) sc_divisor_of.nd rfl (by first | exact .inl rfl | exact .inr rfl) (de_f (df_abs rfl B.b_abs (da_cons (df_var (pv 1)) da_nil))))
  (dss_cons (ds_while PassesOwn.never (dt_cmpD cd_gt (df_var (pv 1)) df_int) (dss_cons (ds_set (i := 2) sc_divisor_of.nd rfl (by first | exact .inl rfl | exact .inr rfl) (de_f (df_mod (df_var (pv 0)) (df_var (pv 1)))))
  (dss_cons (ds_set (i := 0) sc_divisor_of.nd rfl (by first | exact .inl rfl | exact .inr rfl) (de_f (df_var (pv 1))))
  (dss_one (ds_set (i := 1) sc_divisor_of.nd rfl (by first | exact .inl rfl | exact .inr rfl) (de_f (df_var (pv 2))))))))
  (dss_one (ds_ret (de_take (pv 0)))))))
noncomputable abbrev s_is_fraction : Stmt := topS 31
theorem sc_is_fraction : FnScope ["thing"] ["thing"] (defScope s_is_fraction) := ⟨rfl, rfl, rfl, by decide +kernel, rfl, by decide +kernel, by decide +kernel⟩
noncomputable def F_is_fraction : List D → Res Cell := runs 1 0 (sSeq (sIf (mOr (mNot (mOpt hBl (mOpt hIsi (aCons (gVar 0) (aCons (gC (.ty "tuple")) aNil))))) (mOpt2 hNeS (mOpt hLen (aCons (gVar 0) aNil)) (gC (.int 2)))) (sRet (mMap Cell.fz (gC (.bl false)))) sNil)
  (sSeq (sIf (mOr (mNot (mOpt hBl (mOpt Cell.toD (gCall F_is_whole (aCons (mOpt2 hIx (gVar 0) (gC (.int 0))) aNil))))) (mOr (mNot (mOpt hBl (mOpt Cell.toD (gCall F_is_whole (aCons (mOpt2 hIx (gVar 0) (gC (.int 1))) aNil))))) (mOpt2 hLt (mOpt2 hIx (gVar 0) (gC (.int 1))) (gC (.int 1))))) (sRet (mMap Cell.fz (gC (.bl false)))) sNil)
  (sRet (mMap Cell.fz (mMap D.bl (mOpt2 hEqS (mOpt Cell.toD (gCall F_divisor_of (aCons (mOpt2 hIx (gVar 0) (gC (.int 0))) (aCons (mOpt2 hIx (gVar 0) (gC (.int 1))) aNil)))) (gC (.int 1))))))))
theorem d_is_fraction {P : Program} {w : World} {K : Fg} {mg : Str → Option Value} {base : Heap} {f : Addr} {fd : FuncData} (F : FunA K "is_fraction" "is_fraction" s_is_fraction f fd) (B : Bn mg) (c_is_whole : DCal P w K mg base CX0 1 "is_whole" F_is_whole) (c_divisor_of : DCal P w K mg base CX0 1 "divisor_of" F_divisor_of) : FnOk P w K mg base CX0 2 f fd ["thing"] (pureSp ⟨K, P, w, mg⟩ F_is_fraction) :=
  fn_p0 (k := 1) F sc_is_fraction rfl fun cdv A outer s H E hr =>
  (dss_cons (ds_if (dt_w (dw_or (dt_not (dt_val (df_isi rfl B.b_isinstance (da_cons (df_var (pv 0)) (da_cons (df_ty B.b_tuple (by decide +kernel)) da_nil))))) (dw_or1 (dt_cmpD cd_neS (df_len rfl B.b_len (da_cons (df_var (pv 0)) da_nil)) df_int)))) (dss_one (ds_ret (de_f df_bl))) dss_nil)
  (dss_cons (ds_if (dt_w (dw_or (dt_not (dt_val (df_e (de_call c_is_whole hr (by decide) rfl (da_cons (df_ix (df_var (pv 0)) df_int) da_nil))))) (dw_or (dt_not (dt_val (df_e (de_call c_is_whole hr (by decide) rfl (da_cons (df_ix (df_var (pv 0)) df_int) da_nil))))) (dw_or1 (dt_cmpD cd_lt (df_ix (df_var (pv 0)) df_int) df_int))))) (dss_one (ds_ret (de_f df_bl))) dss_nil)
  (dss_one (ds_ret (de_f (df_cmpD cd_eqS (df_e (de_call c_divisor_of hr (by decide) rfl (da_cons (df_ix (df_var (pv 0)) df_int) (da_cons (df_ix (df_var (pv 0)) df_int) da_nil)))) df_int))))))
noncomputable abbrev s_gridded : Stmt := topS 33
theorem sc_gridded : FnScope ["value", "base", "places", "way", "top", "bottom", "low", "beyond"] ["value", "base", "places", "way"] (defScope s_gridded) := ⟨rfl, rfl, rfl, by decide +kernel, rfl, by decide +kernel, by decide +kernel⟩
noncomputable def F_gridded : List D → Res Cell := runs 4 4 (sSeq (sSet 4 (mMap Cell.fz (mOpt2 hMul (mOpt2 hIx (gVar 0) (gC (.int 0))) (mOpt Cell.toD (gCall F_power_of (aCons (gVar 1) (aCons (gVar 2) aNil)))))))
  (sSeq (sSet 5 (mMap Cell.fz (mOpt2 hIx (gVar 0) (gC (.int 1)))))
  (sSeq (sSet 6 (mMap Cell.fz (mOpt2 hFdiv (gVar 4) (gVar 5))))
  (sSeq (sSet 7 (mMap Cell.fz (mOpt2 hSub (gVar 4) (mOpt2 hMul (gVar 6) (gVar 5)))))
  (sSeq (sIf (mOr (mOpt2 hEqS (gVar 7) (gC (.int 0))) (mOpt2 hEqS (gVar 3) (gC (.str "down")))) (sRet (gTake 6)) sNil)
  (sSeq (sIf (mOpt2 hEqS (gVar 3) (gC (.str "up"))) (sRet (mMap Cell.fz (mOpt2 hAdd (gVar 6) (gC (.int 1))))) sNil)
  (sSeq (sIf (mOpt2 hEqS (gVar 3) (gC (.str "cut"))) (sRet (mMap Cell.fz (mOpt2 hAdd (gVar 6) (mOpt hInt (aCons (mMap D.bl (mOpt2 hLt (gVar 6) (gC (.int 0)))) aNil))))) sNil)
  (sSeq (sIf (mAnd (mOpt2 hEqS (mOpt2 hMul (gC (.int 2)) (gVar 7)) (gVar 5)) (mOpt2 hEqS (gVar 3) (gC (.str "even")))) (sRet (mMap Cell.fz (mOpt2 hAdd (gVar 6) (mOpt2 hMod (gVar 6) (gC (.int 2)))))) sNil)
  (sRet (mMap Cell.fz (mOpt2 hAdd (gVar 6) (mOpt hInt (aCons (mMap D.bl (mOpt2 hGe (mOpt2 hMul (gC (.int 2)) (gVar 7)) (gVar 5))) aNil)))))))))))))
theorem d_gridded {P : Program} {w : World} {K : Fg} {mg : Str → Option Value} {base : Heap} {f : Addr} {fd : FuncData} (F : FunA K "gridded" "gridded" s_gridded f fd) (B : Bn mg) (c_power_of : DCal P w K mg base CX0 1 "power_of" F_power_of) : FnOk P w K mg base CX0 2 f fd ["value", "base", "places", "way"] (pureSp ⟨K, P, w, mg⟩ F_gridded) :=
  fn_p0 (k := 1) F sc_gridded rfl fun cdv A outer s H E hr =>
  (dss_cons (ds_set (i := 4) sc_gridded.nd rfl (by first | exact .inl rfl | exact .inr rfl) (de_f (df_mul (df_ix (df_var (pv 0)) df_int) (df_e (de_call c_power_of hr (by decide) rfl (da_cons (df_var (pv 1)) (da_cons (df_var (pv 2)) da_nil)))))))
  (dss_cons (ds_set (i := 5) sc_gridded.nd rfl (by first | exact .inl rfl | exact .inr rfl) (de_f (df_ix (df_var (pv 0)) df_int)))
  (dss_cons (ds_set (i := 6) sc_gridded.nd rfl (by first | exact .inl rfl | exact .inr rfl) (de_f (df_fdiv (df_var (pv 4)) (df_var (pv 5)))))
  (dss_cons (ds_set (i := 7) sc_gridded.nd rfl (by first | exact .inl rfl | exact .inr rfl) (de_f (df_sub (df_var (pv 4)) (df_mul (df_var (pv 6)) (df_var (pv 5))))))
  (dss_cons (ds_if (dt_w (dw_or (dt_cmpD cd_eqS (df_var (pv 7)) df_int) (dw_or1 (dt_cmpD cd_eqS (df_var (pv 3)) df_str)))) (dss_one (ds_ret (de_take (pv 6)))) dss_nil)
  (dss_cons (ds_if (dt_cmpD cd_eqS (df_var (pv 3)) df_str) (dss_one (ds_ret (de_f (df_add (df_var (pv 6)) df_int)))) dss_nil)
  (dss_cons (ds_if (dt_cmpD cd_eqS (df_var (pv 3)) df_str) (dss_one (ds_ret (de_f (df_add (df_var (pv 6)) (df_callInt rfl B.b_int (da_cons (df_cmpD cd_lt (df_var (pv 6)) df_int) da_nil)))))) dss_nil)
  (dss_cons (ds_if (dt_w (dw_and (dt_cmpD cd_eqS (df_mul df_int (df_var (pv 7))) (df_var (pv 5))) (dw_and1 (dt_cmpD cd_eqS (df_var (pv 3)) df_str)))) (dss_one (ds_ret (de_f (df_add (df_var (pv 6)) (df_mod (df_var (pv 6)) df_int))))) dss_nil)
  (dss_one (ds_ret (de_f (df_add (df_var (pv 6)) (df_callInt rfl B.b_int (da_cons (df_cmpD cd_ge (df_mul df_int (df_var (pv 7))) (df_var (pv 5))) da_nil))))))))))))))
noncomputable abbrev s_NumberForm_steps_of : Stmt := inClass (topS 39) 1
theorem sc_NumberForm_steps_of : FnScope ["self", "value", "steps"] ["self", "value"] (defScope s_NumberForm_steps_of) := ⟨rfl, rfl, rfl, by decide +kernel, rfl, by decide +kernel, by decide +kernel⟩
noncomputable def F_NumberForm_steps_of : List D → Res Cell := runs 2 1 (sSeq (sIf (mNot (mOpt hBl (mOpt Cell.toD (gCall F_is_fraction (aCons (gVar 1) aNil))))) sNever sNil)
  (sSeq (sSet 2 (gCall F_gridded (aCons (gVar 1) (aCons (gFldN 0 ["NumberForm"] "base") (aCons (gFldN 0 ["NumberForm"] "places") (aCons (gFldN 0 ["NumberForm"] "way") aNil))))))
  (sSeq (sIf (mOpt2 hGe (mOpt hAbs (aCons (gVar 2) aNil)) (mOpt Cell.toD (gCall F_power_of (aCons (gFldN 0 ["NumberForm"] "base") (aCons (mOpt2 hAdd (gFldN 0 ["NumberForm"] "figures") (gFldN 0 ["NumberForm"] "places")) aNil))))) sNever sNil)
  (sRet (gTake 2)))))
theorem d_NumberForm_steps_of {P : Program} {w : World} {K : Fg} {mg : Str → Option Value} {base : Heap} {f : Addr} {fd : FuncData} (F : FunA K "steps_of" "NumberForm.steps_of" s_NumberForm_steps_of f fd) (B : Bn mg) (c_is_fraction : DCal P w K mg base CX0 2 "is_fraction" F_is_fraction) (c_gridded : DCal P w K mg base CX0 2 "gridded" F_gridded) (f_NumberForm_base : ClsFs K mg ["NumberForm"] "base") (f_NumberForm_places : ClsFs K mg ["NumberForm"] "places") (f_NumberForm_way : ClsFs K mg ["NumberForm"] "way") (c_power_of : DCal P w K mg base CX0 1 "power_of" F_power_of) (f_NumberForm_figures : ClsFs K mg ["NumberForm"] "figures") : FnOk P w K mg base CX0 3 f fd ["self", "value"] (pureSp ⟨K, P, w, mg⟩ F_NumberForm_steps_of) :=
  fn_p0 (k := 2) F sc_NumberForm_steps_of rfl fun cdv A outer s H E hr =>
  (dss_cons (ds_if (dt_not (dt_val (df_e (de_call c_is_fraction hr (by decide) rfl (da_cons (df_var (pv 1)) da_nil))))) (dss_one ds_never) dss_nil)
  (dss_cons (ds_set (i := 2) sc_NumberForm_steps_of.nd rfl (by first | exact .inl rfl | exact .inr rfl) (de_call c_gridded hr (by decide) rfl (da_cons (df_var (pv 1)) (da_cons (df_fldN (pv 0) f_NumberForm_base) (da_cons (df_fldN (pv 0) f_NumberForm_places) (da_cons (df_fldN (pv 0) f_NumberForm_way) da_nil))))))
  (dss_cons (ds_if (dt_cmpD cd_ge (df_abs rfl B.b_abs (da_cons (df_var (pv 2)) da_nil)) (df_e (de_call c_power_of hr (by decide) rfl (da_cons (df_fldN (pv 0) f_NumberForm_base) (da_cons (df_add (df_fldN (pv 0) f_NumberForm_figures) (df_fldN (pv 0) f_NumberForm_places)) da_nil))))) (dss_one ds_never) dss_nil)
  (dss_one (ds_ret (de_take (pv 2)))))))
noncomputable abbrev s_NumberForm_core : Stmt := inClass (topS 39) 3
theorem sc_NumberForm_core : FnScope ["self", "value", "lead", "rest"] ["self", "value"] (defScope s_NumberForm_core) := ⟨rfl, rfl, rfl, by decide +kernel, rfl, by decide +kernel, by decide +kernel⟩
noncomputable def F_NumberForm_core : List D → Res Cell := runs 2 2 (sSeq (sAsg (mOpt Cell.toD (gMeth "NumberForm" "lead_and_rest" F_NumberForm_lead_and_rest (gVar 0) (aCons (mOpt Cell.toD (gMeth "NumberForm" "steps_of" F_NumberForm_steps_of (gVar 0) (aCons (gVar 1) aNil))) aNil))) (gtTup 2 (gtCons (gtName 2) (gtCons (gtName 3) gtNil))))
  (sRet (mMap Cell.fz (mOpt2 hAdd (gVar 2) (gVar 3)))))
theorem d_NumberForm_core {P : Program} {w : World} {K : Fg} {mg : Str → Option Value} {base : Heap} {f : Addr} {fd : FuncData} (F : FunA K "core" "NumberForm.core" s_NumberForm_core f fd) (B : Bn mg) (c_NumberForm_steps_of : DMet P w K mg base CX0 3 "NumberForm" "steps_of" F_NumberForm_steps_of) (c_NumberForm_lead_and_rest : DMet P w K mg base CX0 4 "NumberForm" "lead_and_rest" F_NumberForm_lead_and_rest) : FnOk P w K mg base CX0 5 f fd ["self", "value"] (pureSp ⟨K, P, w, mg⟩ F_NumberForm_core) :=
  fn_p0 (k := 4) F sc_NumberForm_core rfl fun cdv A outer s H E hr =>
  (dss_cons (ds_asg (df_e (de_meth c_NumberForm_lead_and_rest hr (by decide) pass0 (df_var (pv 0)) (da_cons (df_e (de_meth c_NumberForm_steps_of hr (by decide) pass0 (df_var (pv 0)) (da_cons (df_var (pv 1)) da_nil))) da_nil))) (dg_tup rfl (dgs_cons (dg_name sc_NumberForm_core.nd (i := 2) rfl (by first | exact .inl rfl | exact .inr rfl)) (dgs_cons (dg_name sc_NumberForm_core.nd (i := 3) rfl (by first | exact .inl rfl | exact .inr rfl)) dgs_nil))) (hnx := (nx_tup (nx_cons nx_name (nx_cons nx_name nx_nil)))))
  (dss_one (ds_ret (de_f (df_add (df_var (pv 2)) (df_var (pv 3)))))))
noncomputable abbrev s_read_number_form : Stmt := topS 57
theorem sc_read_number_form : FnScope ["reading", "figures", "places", "base", "style", "size", "mark", "point", "way", "width", "fill", "side", "strict", "form"] ["reading"] (defScope s_read_number_form) := ⟨rfl, rfl, rfl, by decide +kernel, rfl, by decide +kernel, by decide +kernel⟩
noncomputable def F_read_number_form : SF := runsS 0 13 (sSeq (sSet 1 (gMethS "Reading" "read_whole" F_Reading_read_whole 0 (aCons (gC (.int 1)) (aCons (gC (.int 12)) aNil))))
  (sSeq (sSet 2 (gMethS "Reading" "read_whole" F_Reading_read_whole 0 (aCons (gC (.int 0)) (aCons (gC (.int 6)) aNil))))
  (sSeq (sSet 3 (mMap Cell.fz (gC (.int 10))))
  (sSeq (sSet 4 (mMap Cell.fz (gC (.str "minus"))))
  (sSeq (sSet 5 (mMap Cell.fz (gC (.int 0))))
  (sSeq (sSet 6 (mMap Cell.fz (gC (.str ","))))
  (sSeq (sSet 7 (mMap Cell.fz (gC (.str "."))))
  (sSeq (sSet 8 (mMap Cell.fz (gC (.str "near"))))
  (sSeq (sIf (mOpt hBl (mOpt Cell.toD (gMethS "Reading" "begins" F_Reading_begins 0 (aCons (gC (.str "base")) aNil)))) (sSet 3 (gMethS "Reading" "read_whole" F_Reading_read_whole 0 (aCons (gC (.int 2)) (aCons (gC (.int 16)) aNil)))) sNil)
  (sSeq (sIf (mOpt hBl (mOpt Cell.toD (gMethS "Reading" "begins" F_Reading_begins 0 (aCons (gC (.str "sign")) aNil)))) (sSet 4 (gMethS "Reading" "one_of" F_Reading_one_of 0 (aCons (mOpt Cell.toD (fun env => .ok (.ow kl_STYLES, env))) aNil))) sNil)
  (sSeq (sIf (mOpt hBl (mOpt Cell.toD (gMethS "Reading" "begins" F_Reading_begins 0 (aCons (gC (.str "groups")) aNil)))) (sSeq (sSet 5 (gMethS "Reading" "read_whole" F_Reading_read_whole 0 (aCons (gC (.int 1)) (aCons (gC (.int 9)) aNil))))
  (sSet 6 (gMethS "Reading" "read_sign" F_Reading_read_sign 0 aNil))) sNil)
  (sSeq (sIf (mOpt hBl (mOpt Cell.toD (gMethS "Reading" "begins" F_Reading_begins 0 (aCons (gC (.str "point")) aNil)))) (sSet 7 (gMethS "Reading" "read_sign" F_Reading_read_sign 0 aNil)) sNil)
  (sSeq (sIf (mOpt hBl (mOpt Cell.toD (gMethS "Reading" "begins" F_Reading_begins 0 (aCons (gC (.str "way")) aNil)))) (sSet 8 (gMethS "Reading" "one_of" F_Reading_one_of 0 (aCons (mOpt Cell.toD (fun env => .ok (.ow kl_WAYS, env))) aNil))) sNil)
  (sSeq (sAsg (mOpt Cell.toD (gCallS F_read_tail 0 (aCons (gC (.str "right")) (aCons (mOpt Cell.toD (mMap Cell.ow (mOpt2 hCat (mOpt Cell.toD (fun env => .ok (.ow kl_SIDES, env))) (mOpt Cell.toD (mMap Cell.ow (mOpt okLen (aCons (gC (.str "inside")) aNil))))))) aNil)))) (gtTup 4 (gtCons (gtName 9) (gtCons (gtName 10) (gtCons (gtName 11) (gtCons (gtName 12) gtNil))))))
  (sSeq (sSet 13 (gMake "NumberForm" F_NumberForm_init (aCons (gVar 1) (aCons (gVar 2) (aCons (gVar 3) (aCons (gVar 4) (aCons (gVar 5) (aCons (gVar 6) (aCons (gVar 7) (aCons (gVar 8) (aCons (gVar 9) (aCons (gVar 10) (aCons (gVar 11) (aCons (gVar 12) aNil))))))))))))))
  (sSeq (sDrop (mOpt Cell.toD (gCallS F_allow_strict 0 (aCons (gVar 12) (aCons (mOpt hLen (aCons (mOpt Cell.toD (gMeth "NumberForm" "core" F_NumberForm_core (gVar 13) (aCons (mMap D.tup (mOpt okLen (aCons (gC (.int 0)) (aCons (gC (.int 1)) aNil)))) aNil))) aNil)) (aCons (gVar 9) aNil))))))
  (sRet (gTake 13))))))))))))))))))
theorem d_read_number_form {P : Program} {w : World} {K : Fg} {mg : Str → Option Value} {base : Heap} {f : Addr} {fd : FuncData} (F : FunA K "read_number_form" "read_number_form" s_read_number_form f fd) (B : Bn mg) (c_Reading_read_whole : DSMet P w K mg base (L2.CX P w) 4 "Reading" "read_whole" F_Reading_read_whole) (c_Reading_begins : DSMet P w K mg base CX0 1 "Reading" "begins" F_Reading_begins) (k_STYLES : KLst ⟨K, P, w, mg⟩ "STYLES" kl_STYLES) (c_Reading_one_of : DSMet P w K mg base (L2.CX P w) 4 "Reading" "one_of" F_Reading_one_of) (c_Reading_read_sign : DSMet P w K mg base (L2.CX P w) 4 "Reading" "read_sign" F_Reading_read_sign) (k_WAYS : KLst ⟨K, P, w, mg⟩ "WAYS" kl_WAYS) (c_read_tail : DSelf P w K mg base (L2.CX P w) 5 "read_tail" F_read_tail) (k_SIDES : KLst ⟨K, P, w, mg⟩ "SIDES" kl_SIDES) (c_NumberForm_init : DMk P w K mg base CX0 2 "NumberForm" F_NumberForm_init) (c_allow_strict : DSelf P w K mg base (L2.CX P w) 3 "allow_strict" F_allow_strict) (c_NumberForm_core : DMet P w K mg base CX0 5 "NumberForm" "core" F_NumberForm_core) : FnOk P w K mg base (L2.CX P w) 6 f fd ["reading"] (selfSp ⟨K, P, w, mg⟩ F_read_number_form) :=
  fn_sX (k := 5) F sc_read_number_form (m := 0) rfl rfl fun cdv A outer s H E hr =>
  (dss_cons (ds_set (i := 1) sc_read_number_form.nd rfl (by first | exact .inl rfl | exact .inr rfl) (de_methS c_Reading_read_whole hr (by decide) (pass_tk (takes_of rfl rfl rfl rfl)) (pv 0) (da_cons df_int (da_cons df_int da_nil))))
  (dss_cons (ds_set (i := 2) sc_read_number_form.nd rfl (by first | exact .inl rfl | exact .inr rfl) (de_methS c_Reading_read_whole hr (by decide) (pass_tk (takes_of rfl rfl rfl rfl)) (pv 0) (da_cons df_int (da_cons df_int da_nil))))
  (dss_cons (ds_set (i := 3) sc_read_number_form.nd rfl (by first | exact .inl rfl | exact .inr rfl) (de_f df_int))
  (dss_cons (ds_set (i := 4) sc_read_number_form.nd rfl (by first | exact .inl rfl | exact .inr rfl) (de_f df_str))
  (dss_cons (ds_set (i := 5) sc_read_number_form.nd rfl (by first | exact .inl rfl | exact .inr rfl) (de_f df_int))
  (dss_cons (ds_set (i := 6) sc_read_number_form.nd rfl (by first | exact .inl rfl | exact .inr rfl) (de_f df_str))
  (dss_cons (ds_set (i := 7) sc_read_number_form.nd rfl (by first | exact .inl rfl | exact .inr rfl) (de_f df_str))
  (dss_cons (ds_set (i := 8) sc_read_number_form.nd rfl (by first | exact .inl rfl | exact .inr rfl) (de_f df_str))
  (dss_cons (ds_if (dt_val (df_e (de_methS c_Reading_begins hr (by decide) pass0 (pv 0) (da_cons df_str da_nil)))) (dss_one (ds_set (i := 3) sc_read_number_form.nd rfl (by first | exact .inl rfl | exact .inr rfl) (de_methS c_Reading_read_whole hr (by decide) (pass_tk (takes_of rfl rfl rfl rfl)) (pv 0) (da_cons df_int (da_cons df_int da_nil))))) dss_nil)
  (dss_cons (ds_if (dt_val (df_e (de_methS c_Reading_begins hr (by decide) pass0 (pv 0) (da_cons df_str da_nil)))) (dss_one (ds_set (i := 4) sc_read_number_form.nd rfl (by first | exact .inl rfl | exact .inr rfl) (de_methS c_Reading_one_of hr (by decide) (pass_tk (takes_of rfl rfl rfl rfl)) (pv 0) (da_cons (df_e (de_listK k_STYLES rfl B.b_list)) da_nil)))) dss_nil)
  (dss_cons (ds_if (dt_val (df_e (de_methS c_Reading_begins hr (by decide) pass0 (pv 0) (da_cons df_str da_nil)))) (dss_cons (ds_set (i := 5) sc_read_number_form.nd rfl (by first | exact .inl rfl | exact .inr rfl) (de_methS c_Reading_read_whole hr (by decide) (pass_tk (takes_of rfl rfl rfl rfl)) (pv 0) (da_cons df_int (da_cons df_int da_nil))))
  (dss_one (ds_set (i := 6) sc_read_number_form.nd rfl (by first | exact .inl rfl | exact .inr rfl) (de_methS0 c_Reading_read_sign hr (by decide) (pass_tk (takes_of rfl rfl rfl rfl)) (pv 0))))) dss_nil)
  (dss_cons (ds_if (dt_val (df_e (de_methS c_Reading_begins hr (by decide) pass0 (pv 0) (da_cons df_str da_nil)))) (dss_one (ds_set (i := 7) sc_read_number_form.nd rfl (by first | exact .inl rfl | exact .inr rfl) (de_methS0 c_Reading_read_sign hr (by decide) (pass_tk (takes_of rfl rfl rfl rfl)) (pv 0)))) dss_nil)
  (dss_cons (ds_if (dt_val (df_e (de_methS c_Reading_begins hr (by decide) pass0 (pv 0) (da_cons df_str da_nil)))) (dss_one (ds_set (i := 8) sc_read_number_form.nd rfl (by first | exact .inl rfl | exact .inr rfl) (de_methS c_Reading_one_of hr (by decide) (pass_tk (takes_of rfl rfl rfl rfl)) (pv 0) (da_cons (df_e (de_listK k_WAYS rfl B.b_list)) da_nil)))) dss_nil)
  (dss_cons (ds_asg (df_e (de_callS c_read_tail hr (by decide) (pass_tk (takes_of rfl rfl rfl rfl)) rfl (pv 0) (da_cons df_str (da_cons (df_e (de_cat (df_e (de_listK k_SIDES rfl B.b_list)) (df_e (de_lst (da_cons df_str da_nil))))) da_nil)))) (dg_tup rfl (dgs_cons (dg_name sc_read_number_form.nd (i := 9) rfl (by first | exact .inl rfl | exact .inr rfl)) (dgs_cons (dg_name sc_read_number_form.nd (i := 10) rfl (by first | exact .inl rfl | exact .inr rfl)) (dgs_cons (dg_name sc_read_number_form.nd (i := 11) rfl (by first | exact .inl rfl | exact .inr rfl)) (dgs_cons (dg_name sc_read_number_form.nd (i := 12) rfl (by first | exact .inl rfl | exact .inr rfl)) dgs_nil))))) (hnx := (nx_tup (nx_cons nx_name (nx_cons nx_name (nx_cons nx_name (nx_cons nx_name nx_nil)))))))
  (dss_cons (ds_set (i := 13) sc_read_number_form.nd rfl (by first | exact .inl rfl | exact .inr rfl) (de_make c_NumberForm_init hr (by decide) pass0 rfl (da_cons (df_var (pv 1)) (da_cons (df_var (pv 2)) (da_cons (df_var (pv 3)) (da_cons (df_var (pv 4)) (da_cons (df_var (pv 5)) (da_cons (df_var (pv 6)) (da_cons (df_var (pv 7)) (da_cons (df_var (pv 8)) (da_cons (df_var (pv 9)) (da_cons (df_var (pv 10)) (da_cons (df_var (pv 11)) (da_cons (df_var (pv 12)) da_nil))))))))))))))
  (dss_cons (ds_expr (df_e (de_callS c_allow_strict hr (by decide) (pass_tk (takes_of rfl rfl rfl rfl)) rfl (pv 0) (da_cons (df_var (pv 12)) (da_cons (df_len rfl B.b_len (da_cons (df_e (de_meth c_NumberForm_core hr (by decide) pass0 (df_var (pv 13)) (da_cons (df_tup (da_cons df_int (da_cons df_int da_nil))) da_nil))) da_nil)) (da_cons (df_var (pv 9)) da_nil))))))
  (dss_one (ds_ret (de_take (pv 13))))))))))))))))))))
noncomputable abbrev s_Reading_read_signs : Stmt := inClass (topS 54) 6
theorem sc_Reading_read_signs : FnScope ["self", "word", "k"] ["self"] (defScope s_Reading_read_signs) := ⟨rfl, rfl, rfl, by decide +kernel, rfl, by decide +kernel, by decide +kernel⟩
noncomputable def F_Reading_read_signs : SF := runsS 0 2 (sSeq (sSet 1 (gMethS "Reading" "taken" F_Reading_taken 0 aNil))
  (sSeq (sIf (mOpt (hTabIn kv_SIGNS false) (gVar 1)) (sRet (mMap Cell.fz (mOpt (hTab kv_SIGNS) (gVar 1)))) sNil)
  (sSeq (sIf (mOr (mOpt2 hLt (mOpt hLen (aCons (gVar 1) aNil)) (gC (.int 2))) (mOpt2 hNeS (mOpt2 hIx (gVar 1) (gC (.int 0))) (gC (.str "=")))) (sRaise1 "NoForm" "at" (mOpt2 hSub (gFldN 0 ["Reading"] "at") (gC (.int 1)))) sNil)
  (sSeq (sFor (mOpt hRng2 (aCons (gC (.int 2)) (aCons (mOpt hLen (aCons (gVar 1) aNil)) aNil))) (gtName 2) (sIf (mNot (mOpt2 hLt (mOpt2 hIx (gVar 1) (mOpt2 hSub (gVar 2) (gC (.int 1)))) (mOpt2 hIx (gVar 1) (gVar 2)))) (sRaise1 "NoForm" "at" (mOpt2 hSub (gFldN 0 ["Reading"] "at") (gC (.int 1)))) sNil))
  (sRet (mMap Cell.fz (gSlS (gVar 1) (mPart (some (gC (.int 1)))) (mPart none))))))))
theorem d_Reading_read_signs {P : Program} {w : World} {K : Fg} {mg : Str → Option Value} {base : Heap} {f : Addr} {fd : FuncData} (F : FunA K "read_signs" "Reading.read_signs" s_Reading_read_signs f fd) (B : Bn mg) (c_Reading_taken : DSMet P w K mg base (L2.CX P w) 3 "Reading" "taken" F_Reading_taken) (k_SIGNS : KTab ⟨K, P, w, mg⟩ "SIGNS" kv_SIGNS) (f_Reading_at : ClsFs K mg ["Reading"] "at") (x_NoForm : DExc P w K mg base 1 "NoForm" "at") : FnOk P w K mg base (L2.CX P w) 4 f fd ["self"] (selfSp ⟨K, P, w, mg⟩ F_Reading_read_signs) :=
  fn_sX (k := 3) F sc_Reading_read_signs (m := 0) rfl rfl fun cdv A outer s H E hr =>
  (dss_cons (ds_set (i := 1) sc_Reading_read_signs.nd rfl (by first | exact .inl rfl | exact .inr rfl) (de_methS0 c_Reading_taken hr (by decide) (pass_tk (takes_of rfl rfl rfl rfl)) (pv 0)))
  (dss_cons (ds_if (dt_kIn k_SIGNS (df_var (pv 1))) (dss_one (ds_ret (de_f (df_kIx k_SIGNS (df_var (pv 1)))))) dss_nil)
  (dss_cons (ds_if (dt_w (dw_or (dt_cmpD cd_lt (df_len rfl B.b_len (da_cons (df_var (pv 1)) da_nil)) df_int) (dw_or1 (dt_cmpD cd_neS (df_ix (df_var (pv 1)) df_int) df_str)))) (dss_one (ds_raise1 rfl (takes_of rfl rfl rfl rfl) x_NoForm hr (by decide) rfl (df_sub (df_fldN (pv 0) f_Reading_at) df_int))) dss_nil)
  (dss_cons (ds_for (passes_of rfl) rfl (di_range2 rfl B.b_range (da_cons df_int (da_cons (df_len rfl B.b_len (da_cons (df_var (pv 1)) da_nil)) da_nil))) (dg_name sc_Reading_read_signs.nd (i := 2) rfl (by first | exact .inl rfl | exact .inr rfl)) (dss_one (ds_if (dt_not (dt_cmpD cd_lt (df_ix (df_var (pv 1)) (df_sub (df_var (pv 2)) df_int)) (df_ix (df_var (pv 1)) (df_var (pv 2))))) (dss_one (ds_raise1 rfl (takes_of rfl rfl rfl rfl) x_NoForm hr (by decide) rfl (df_sub (df_fldN (pv 0) f_Reading_at) df_int))) dss_nil)))
  (dss_one (ds_ret (de_f (df_slS (df_var (pv 1)) (dp_some df_int) dp_none))))))))
noncomputable abbrev s_WordForm_init : Stmt := inClass (topS 42) 0
theorem sc_WordForm_init : FnScope ["self", "signs", "least", "most", "width", "fill", "side", "strict"] ["self", "signs", "least", "most", "width", "fill", "side", "strict"] (defScope s_WordForm_init) := ⟨rfl, rfl, rfl, by decide +kernel, rfl, by decide +kernel, by decide +kernel⟩
noncomputable def F_WordForm_init : SF := runsS 7 0 (sSeq (sDrop (mOpt Cell.toD (gCallS F_Form_init 0 (aCons (gVar 4) (aCons (gVar 5) (aCons (gVar 6) (aCons (gVar 7) aNil)))))))
  (sSeq (sSetF 0 ["WordForm"] "signs" (gVar 1))
  (sSeq (sSetF 0 ["WordForm"] "least" (gVar 2))
  (sSetF 0 ["WordForm"] "most" (gVar 3)))))
theorem d_WordForm_init {P : Program} {w : World} {K : Fg} {mg : Str → Option Value} {base : Heap} {f : Addr} {fd : FuncData} (F : FunA K "__init__" "WordForm.__init__" s_WordForm_init f fd) (B : Bn mg) (b_Form_init : DCls P w K mg base CX0 1 "Form" "__init__" F_Form_init) (f_WordForm_signs : ClsFs K mg ["WordForm"] "signs") (f_WordForm_least : ClsFs K mg ["WordForm"] "least") (f_WordForm_most : ClsFs K mg ["WordForm"] "most") : FnOk P w K mg base CX0 2 f fd ["self", "signs", "least", "most", "width", "fill", "side", "strict"] (selfSp ⟨K, P, w, mg⟩ F_WordForm_init) :=
  fn_s0 (k := 1) F sc_WordForm_init (m := 7) rfl rfl fun cdv A outer s H E hr =>
  (dss_cons (ds_expr (df_e (de_clsCall b_Form_init hr (by decide) pass0 rfl (pv 0) (da_cons (df_var (pv 4)) (da_cons (df_var (pv 5)) (da_cons (df_var (pv 6)) (da_cons (df_var (pv 7)) da_nil)))))))
  (dss_cons (ds_setF (pv 0) f_WordForm_signs (df_var (pv 1)))
  (dss_cons (ds_setF (pv 0) f_WordForm_least (df_var (pv 2)))
  (dss_one (ds_setF (pv 0) f_WordForm_most (df_var (pv 3)))))))
noncomputable abbrev s_read_word_form : Stmt := topS 58
theorem sc_read_word_form : FnScope ["reading", "signs", "least", "most", "width", "fill", "side", "strict"] ["reading"] (defScope s_read_word_form) := ⟨rfl, rfl, rfl, by decide +kernel, rfl, by decide +kernel, by decide +kernel⟩
noncomputable def F_read_word_form : SF := runsS 0 7 (sSeq (sSet 1 (gMethS "Reading" "read_signs" F_Reading_read_signs 0 aNil))
  (sSeq (sSet 2 (gMethS "Reading" "read_whole" F_Reading_read_whole 0 (aCons (gC (.int 0)) (aCons (gC (.int 24)) aNil))))
  (sSeq (sSet 3 (gMethS "Reading" "read_whole" F_Reading_read_whole 0 (aCons (gVar 2) (aCons (gC (.int 24)) aNil))))
  (sSeq (sIf (mOpt hBl (mOpt Cell.toD (gMethS "Reading" "begins" F_Reading_begins 0 (aCons (gC (.str "blank")) aNil)))) (sSet 1 (mMap Cell.fz (mOpt2 hAdd (gC (.str " ")) (gVar 1)))) sNil)
  (sSeq (sAsg (mOpt Cell.toD (gCallS F_read_tail 0 (aCons (gC (.str "left")) (aCons (mOpt Cell.toD (fun env => .ok (.ow kl_SIDES, env))) aNil)))) (gtTup 4 (gtCons (gtName 4) (gtCons (gtName 5) (gtCons (gtName 6) (gtCons (gtName 7) gtNil))))))
  (sSeq (sDrop (mOpt Cell.toD (gCallS F_allow_strict 0 (aCons (gVar 7) (aCons (gVar 2) (aCons (gVar 4) aNil))))))
  (sRet (gMake "WordForm" F_WordForm_init (aCons (gVar 1) (aCons (gVar 2) (aCons (gVar 3) (aCons (gVar 4) (aCons (gVar 5) (aCons (gVar 6) (aCons (gVar 7) aNil)))))))))))))))
theorem d_read_word_form {P : Program} {w : World} {K : Fg} {mg : Str → Option Value} {base : Heap} {f : Addr} {fd : FuncData} (F : FunA K "read_word_form" "read_word_form" s_read_word_form f fd) (B : Bn mg) (c_Reading_read_signs : DSMet P w K mg base (L2.CX P w) 4 "Reading" "read_signs" F_Reading_read_signs) (k_MOST_SIGNS : ∃ t, mg "MOST_SIGNS" = some (.int 24 t)) (c_Reading_read_whole : DSMet P w K mg base (L2.CX P w) 4 "Reading" "read_whole" F_Reading_read_whole) (c_Reading_begins : DSMet P w K mg base CX0 1 "Reading" "begins" F_Reading_begins) (c_read_tail : DSelf P w K mg base (L2.CX P w) 5 "read_tail" F_read_tail) (k_SIDES : KLst ⟨K, P, w, mg⟩ "SIDES" kl_SIDES) (c_allow_strict : DSelf P w K mg base (L2.CX P w) 3 "allow_strict" F_allow_strict) (c_WordForm_init : DMk P w K mg base CX0 2 "WordForm" F_WordForm_init) : FnOk P w K mg base (L2.CX P w) 6 f fd ["reading"] (selfSp ⟨K, P, w, mg⟩ F_read_word_form) :=
  fn_sX (k := 5) F sc_read_word_form (m := 0) rfl rfl fun cdv A outer s H E hr =>
  (dss_cons (ds_set (i := 1) sc_read_word_form.nd rfl (by first | exact .inl rfl | exact .inr rfl) (de_methS0 c_Reading_read_signs hr (by decide) (pass_tk (takes_of rfl rfl rfl rfl)) (pv 0)))
  (dss_cons (ds_set (i := 2) sc_read_word_form.nd rfl (by first | exact .inl rfl | exact .inr rfl) (de_methS c_Reading_read_whole hr (by decide) (pass_tk (takes_of rfl rfl rfl rfl)) (pv 0) (da_cons df_int (da_cons (df_globI k_MOST_SIGNS) da_nil))))
  (dss_cons (ds_set (i := 3) sc_read_word_form.nd rfl (by first | exact .inl rfl | exact .inr rfl) (de_methS c_Reading_read_whole hr (by decide) (pass_tk (takes_of rfl rfl rfl rfl)) (pv 0) (da_cons (df_var (pv 2)) (da_cons (df_globI k_MOST_SIGNS) da_nil))))
  (dss_cons (ds_if (dt_val (df_e (de_methS c_Reading_begins hr (by decide) pass0 (pv 0) (da_cons df_str da_nil)))) (dss_one (ds_set (i := 1) sc_read_word_form.nd rfl (by first | exact .inl rfl | exact .inr rfl) (de_f (df_add df_str (df_var (pv 1)))))) dss_nil)
  (dss_cons (ds_asg (df_e (de_callS c_read_tail hr (by decide) (pass_tk (takes_of rfl rfl rfl rfl)) rfl (pv 0) (da_cons df_str (da_cons (df_e (de_listK k_SIDES rfl B.b_list)) da_nil)))) (dg_tup rfl (dgs_cons (dg_name sc_read_word_form.nd (i := 4) rfl (by first | exact .inl rfl | exact .inr rfl)) (dgs_cons (dg_name sc_read_word_form.nd (i := 5) rfl (by first | exact .inl rfl | exact .inr rfl)) (dgs_cons (dg_name sc_read_word_form.nd (i := 6) rfl (by first | exact .inl rfl | exact .inr rfl)) (dgs_cons (dg_name sc_read_word_form.nd (i := 7) rfl (by first | exact .inl rfl | exact .inr rfl)) dgs_nil))))) (hnx := (nx_tup (nx_cons nx_name (nx_cons nx_name (nx_cons nx_name (nx_cons nx_name nx_nil)))))))
  (dss_cons (ds_expr (df_e (de_callS c_allow_strict hr (by decide) (pass_tk (takes_of rfl rfl rfl rfl)) rfl (pv 0) (da_cons (df_var (pv 7)) (da_cons (df_var (pv 2)) (da_cons (df_var (pv 4)) da_nil))))))
  (dss_one (ds_ret (de_make c_WordForm_init hr (by decide) pass0 rfl (da_cons (df_var (pv 1)) (da_cons (df_var (pv 2)) (da_cons (df_var (pv 3)) (da_cons (df_var (pv 4)) (da_cons (df_var (pv 5)) (da_cons (df_var (pv 6)) (da_cons (df_var (pv 7)) da_nil))))))))))))))))
noncomputable abbrev s_ChoiceForm_init : Stmt := inClass (topS 43) 0
theorem sc_ChoiceForm_init : FnScope ["self", "names", "width", "fill", "side", "strict"] ["self", "names", "width", "fill", "side", "strict"] (defScope s_ChoiceForm_init) := ⟨rfl, rfl, rfl, by decide +kernel, rfl, by decide +kernel, by decide +kernel⟩
noncomputable def F_ChoiceForm_init : SF := runsS 5 0 (sSeq (sDrop (mOpt Cell.toD (gCallS F_Form_init 0 (aCons (gVar 2) (aCons (gVar 3) (aCons (gVar 4) (aCons (gVar 5) aNil)))))))
  (sSetF 0 ["ChoiceForm"] "names" (mOpt Cell.toD (mMap Cell.ow (mOpt hList (aCons (gVar 1) aNil))))))
theorem d_ChoiceForm_init {P : Program} {w : World} {K : Fg} {mg : Str → Option Value} {base : Heap} {f : Addr} {fd : FuncData} (F : FunA K "__init__" "ChoiceForm.__init__" s_ChoiceForm_init f fd) (B : Bn mg) (b_Form_init : DCls P w K mg base CX0 1 "Form" "__init__" F_Form_init) (f_ChoiceForm_names : ClsFs K mg ["ChoiceForm"] "names") : FnOk P w K mg base CX0 2 f fd ["self", "names", "width", "fill", "side", "strict"] (selfSp ⟨K, P, w, mg⟩ F_ChoiceForm_init) :=
  fn_s0 (k := 1) F sc_ChoiceForm_init (m := 5) rfl rfl fun cdv A outer s H E hr =>
  (dss_cons (ds_expr (df_e (de_clsCall b_Form_init hr (by decide) pass0 rfl (pv 0) (da_cons (df_var (pv 2)) (da_cons (df_var (pv 3)) (da_cons (df_var (pv 4)) (da_cons (df_var (pv 5)) da_nil)))))))
  (dss_one (ds_setF (pv 0) f_ChoiceForm_names (df_e (de_list rfl B.b_list (da_cons (df_var (pv 1)) da_nil))))))
noncomputable abbrev s_read_choice_form : Stmt := topS 59
theorem sc_read_choice_form : FnScope ["reading", "names", "k", "width", "fill", "side", "strict", "name"] ["reading"] (defScope s_read_choice_form) := ⟨rfl, rfl, rfl, by decide +kernel, rfl, by decide +kernel, by decide +kernel⟩
noncomputable def F_read_choice_form : SF := runsS 0 7 (sSeq (sSet 1 (mMap Cell.ow (mOpt okLen aNil)))
  (sSeq (sFor (mOpt hRng1 (aCons (mOpt Cell.toD (gMethS "Reading" "read_whole" F_Reading_read_whole 0 (aCons (gC (.int 1)) (aCons (gC (.int 12)) aNil)))) aNil)) (gtName 2) (sSeq (sSet 7 (gMethS "Reading" "taken" F_Reading_taken 0 aNil))
  (sSeq (sIf (mOr (mNot (gChain hLe hLe (gC (.int 1)) (mOpt hLen (aCons (gVar 7) aNil)) (gC (.int 12)))) (mInL false (gVar 7) (gLstN 1))) (sRaise1 "NoForm" "at" (mOpt2 hSub (gFldN 0 ["Reading"] "at") (gC (.int 1)))) sNil)
  (sDrop (gAppend 1 (gVar 7))))))
  (sSeq (sAsg (mOpt Cell.toD (gCallS F_read_tail 0 (aCons (gC (.str "left")) (aCons (mOpt Cell.toD (fun env => .ok (.ow kl_SIDES, env))) aNil)))) (gtTup 4 (gtCons (gtName 3) (gtCons (gtName 4) (gtCons (gtName 5) (gtCons (gtName 6) gtNil))))))
  (sSeq (sDrop (mOpt Cell.toD (gCallS F_allow_strict 0 (aCons (gVar 6) (aCons (mOpt hMin (aCons (mOpt Cell.toD (gComp (mOpt hLst (gVar 1)) (gtName 7) mYes (mOpt hLen (aCons (gVar 7) aNil)) [7])) aNil)) (aCons (gVar 3) aNil))))))
  (sRet (gMake "ChoiceForm" F_ChoiceForm_init (aCons (gVar 1) (aCons (gVar 3) (aCons (gVar 4) (aCons (gVar 5) (aCons (gVar 6) aNil)))))))))))
theorem d_read_choice_form {P : Program} {w : World} {K : Fg} {mg : Str → Option Value} {base : Heap} {f : Addr} {fd : FuncData} (F : FunA K "read_choice_form" "read_choice_form" s_read_choice_form f fd) (B : Bn mg) (k_MOST_NAMES : ∃ t, mg "MOST_NAMES" = some (.int 12 t)) (c_Reading_read_whole : DSMet P w K mg base (L2.CX P w) 4 "Reading" "read_whole" F_Reading_read_whole) (c_Reading_taken : DSMet P w K mg base (L2.CX P w) 3 "Reading" "taken" F_Reading_taken) (k_MOST_LETTERS : ∃ t, mg "MOST_LETTERS" = some (.int 12 t)) (f_Reading_at : ClsFs K mg ["Reading"] "at") (x_NoForm : DExc P w K mg base 1 "NoForm" "at") (c_read_tail : DSelf P w K mg base (L2.CX P w) 5 "read_tail" F_read_tail) (k_SIDES : KLst ⟨K, P, w, mg⟩ "SIDES" kl_SIDES) (c_allow_strict : DSelf P w K mg base (L2.CX P w) 3 "allow_strict" F_allow_strict) (c_ChoiceForm_init : DMk P w K mg base CX0 2 "ChoiceForm" F_ChoiceForm_init) : FnOk P w K mg base (L2.CX P w) 6 f fd ["reading"] (selfSp ⟨K, P, w, mg⟩ F_read_choice_form) :=
  fn_sX (k := 5) F sc_read_choice_form (m := 0) rfl rfl fun cdv A outer s H E hr =>
  (dss_cons (ds_set (i := 1) sc_read_choice_form.nd rfl (by first | exact .inl rfl | exact .inr rfl) (de_lst da_nil))
  (dss_cons (ds_for (passes_of rfl) rfl (di_range1 rfl B.b_range (da_cons (df_e (de_methS c_Reading_read_whole hr (by decide) (pass_tk (takes_of rfl rfl rfl rfl)) (pv 0) (da_cons df_int (da_cons (df_globI k_MOST_NAMES) da_nil)))) da_nil)) (dg_name sc_read_choice_form.nd (i := 2) rfl (by first | exact .inl rfl | exact .inr rfl)) (dss_cons (ds_set (i := 7) sc_read_choice_form.nd rfl (by first | exact .inl rfl | exact .inr rfl) (de_methS0 c_Reading_taken hr (by decide) (pass_tk (takes_of rfl rfl rfl rfl)) (pv 0)))
  (dss_cons (ds_if (dt_w (dw_or (dt_not (dt_chain cd_le cd_le df_int (df_len rfl B.b_len (da_cons (df_var (pv 7)) da_nil)) (df_globI k_MOST_LETTERS))) (dw_or1 (dt_inL (df_var (pv 7)) (dq_name (pv 1)))))) (dss_one (ds_raise1 rfl (takes_of rfl rfl rfl rfl) x_NoForm hr (by decide) rfl (df_sub (df_fldN (pv 0) f_Reading_at) df_int))) dss_nil)
  (dss_one (ds_expr (df_append (pv 1) (df_var (pv 7))))))))
  (dss_cons (ds_asg (df_e (de_callS c_read_tail hr (by decide) (pass_tk (takes_of rfl rfl rfl rfl)) rfl (pv 0) (da_cons df_str (da_cons (df_e (de_listK k_SIDES rfl B.b_list)) da_nil)))) (dg_tup rfl (dgs_cons (dg_name sc_read_choice_form.nd (i := 3) rfl (by first | exact .inl rfl | exact .inr rfl)) (dgs_cons (dg_name sc_read_choice_form.nd (i := 4) rfl (by first | exact .inl rfl | exact .inr rfl)) (dgs_cons (dg_name sc_read_choice_form.nd (i := 5) rfl (by first | exact .inl rfl | exact .inr rfl)) (dgs_cons (dg_name sc_read_choice_form.nd (i := 6) rfl (by first | exact .inl rfl | exact .inr rfl)) dgs_nil))))) (hnx := (nx_tup (nx_cons nx_name (nx_cons nx_name (nx_cons nx_name (nx_cons nx_name nx_nil)))))))
  (dss_cons (ds_expr (df_e (de_callS c_allow_strict hr (by decide) (pass_tk (takes_of rfl rfl rfl rfl)) rfl (pv 0) (da_cons (df_var (pv 6)) (da_cons (df_min rfl rfl B.b_min (da_cons (df_e (de_lc (EN := E) (own := [("name", 7)]) rfl sc_read_choice_form.nd (di_list (df_var (pv 1))) (blkOk_by (N := ["reading", "names", "k", "width", "fill", "side", "strict", "name"]) (sc := defScope s_read_choice_form) (own := [("name", 7)]) (by decide +kernel)) (fun _ _ _ _ _ => (dg_name sc_read_choice_form.nd (i := 7) rfl (by first | exact .inl rfl | exact .inr rfl))) (fun _ _ _ _ _ => dts_nil) (fun _ _ _ _ _ => (df_len rfl B.b_len (da_cons (df_var (pv 7)) da_nil))))) da_nil)) (da_cons (df_var (pv 3)) da_nil))))))
  (dss_one (ds_ret (de_make c_ChoiceForm_init hr (by decide) pass0 rfl (da_cons (df_var (pv 1)) (da_cons (df_var (pv 3)) (da_cons (df_var (pv 4)) (da_cons (df_var (pv 5)) (da_cons (df_var (pv 6)) da_nil))))))))))))
noncomputable abbrev s_read_form : Stmt := topS 60
theorem sc_read_form : FnScope ["text", "reading", "kind", "form"] ["text"] (defScope s_read_form) := ⟨rfl, rfl, rfl, by decide +kernel, rfl, by decide +kernel, by decide +kernel⟩
noncomputable def F_read_form : List D → Res Cell := runs 1 3 (sSeq (sIf (mNot (mOpt hBl (mOpt Cell.toD (gCall F_is_text (aCons (gVar 0) aNil))))) (sRaise1 "NoForm" "at" (gC (.int 0))) sNil)
  (sSeq (sSet 1 (gMake "Reading" F_Reading_init (aCons (mOpt Cell.toD (gBMn isStrD hSplit (gVar 0) (aCons (gC (.str " ")) aNil))) aNil)))
  (sSeq (sSet 2 (gMethS "Reading" "one_of" F_Reading_one_of 1 (aCons (mOpt Cell.toD (mMap Cell.ow (mOpt okLen (aCons (gC (.str "number")) (aCons (gC (.str "word")) (aCons (gC (.str "choice")) aNil)))))) aNil)))
  (sSeq (sIf (mOpt2 hEqS (gVar 2) (gC (.str "number"))) (sSet 3 (gCallS F_read_number_form 1 aNil)) (sIf (mOpt2 hEqS (gVar 2) (gC (.str "word"))) (sSet 3 (gCallS F_read_word_form 1 aNil)) (sSet 3 (gCallS F_read_choice_form 1 aNil))))
  (sSeq (sIf (mOpt2 hLt (gFldN 1 ["Reading"] "at") (mOpt hLen (aCons (gFldN 1 ["Reading"] "told") aNil))) (sRaise1 "NoForm" "at" (gFldN 1 ["Reading"] "at")) sNil)
  (sRet (gTake 3)))))))
theorem d_read_form {P : Program} {w : World} {K : Fg} {mg : Str → Option Value} {base : Heap} {f : Addr} {fd : FuncData} (F : FunA K "read_form" "read_form" s_read_form f fd) (B : Bn mg) (c_is_text : DCal P w K mg base CX0 1 "is_text" F_is_text) (x_NoForm : DExc P w K mg base 1 "NoForm" "at") (c_Reading_init : DMk P w K mg base CX0 1 "Reading" F_Reading_init) (c_Reading_one_of : DSMet P w K mg base (L2.CX P w) 4 "Reading" "one_of" F_Reading_one_of) (c_read_number_form : DSelf P w K mg base (L2.CX P w) 6 "read_number_form" F_read_number_form) (c_read_word_form : DSelf P w K mg base (L2.CX P w) 6 "read_word_form" F_read_word_form) (c_read_choice_form : DSelf P w K mg base (L2.CX P w) 6 "read_choice_form" F_read_choice_form) (f_Reading_at : ClsFs K mg ["Reading"] "at") (f_Reading_told : ClsFs K mg ["Reading"] "told") : FnOk P w K mg base (L2.CX P w) 7 f fd ["text"] (pureSp ⟨K, P, w, mg⟩ F_read_form) :=
  fn_pX (k := 6) F sc_read_form rfl fun cdv A outer s H E hr =>
  (dss_cons (ds_if (dt_not (dt_val (df_e (de_call c_is_text hr (by decide) rfl (da_cons (df_var (pv 0)) da_nil))))) (dss_one (ds_raise1 rfl (takes_of rfl rfl rfl rfl) x_NoForm hr (by decide) rfl df_int)) dss_nil)
  (dss_cons (ds_set (i := 1) sc_read_form.nd rfl (by first | exact .inl rfl | exact .inr rfl) (de_make c_Reading_init hr (by decide) pass0 rfl (da_cons (df_e (de_split (df_var (pv 0)) (da_cons df_str da_nil))) da_nil)))
  (dss_cons (ds_set (i := 2) sc_read_form.nd rfl (by first | exact .inl rfl | exact .inr rfl) (de_methS c_Reading_one_of hr (by decide) (pass_tk (takes_of rfl rfl rfl rfl)) (pv 1) (da_cons (df_e (de_lst (da_cons df_str (da_cons df_str (da_cons df_str da_nil))))) da_nil)))
  (dss_cons (ds_if (dt_cmpD cd_eqS (df_var (pv 2)) df_str) (dss_one (ds_set (i := 3) sc_read_form.nd rfl (by first | exact .inl rfl | exact .inr rfl) (de_callS c_read_number_form hr (by decide) (pass_tk (takes_of rfl rfl rfl rfl)) rfl (pv 1) da_nil))) (dss_one (ds_if (dt_cmpD cd_eqS (df_var (pv 2)) df_str) (dss_one (ds_set (i := 3) sc_read_form.nd rfl (by first | exact .inl rfl | exact .inr rfl) (de_callS c_read_word_form hr (by decide) (pass_tk (takes_of rfl rfl rfl rfl)) rfl (pv 1) da_nil))) (dss_one (ds_set (i := 3) sc_read_form.nd rfl (by first | exact .inl rfl | exact .inr rfl) (de_callS c_read_choice_form hr (by decide) (pass_tk (takes_of rfl rfl rfl rfl)) rfl (pv 1) da_nil))))))
  (dss_cons (ds_if (dt_cmpD cd_lt (df_fldN (pv 1) f_Reading_at) (df_len rfl B.b_len (da_cons (df_fldN (pv 1) f_Reading_told) da_nil))) (dss_one (ds_raise1 rfl (takes_of rfl rfl rfl rfl) x_NoForm hr (by decide) rfl (df_fldN (pv 1) f_Reading_at))) dss_nil)
  (dss_one (ds_ret (de_take (pv 3)))))))))
noncomputable abbrev s__law_whole : Stmt := topS 63
theorem sc__law_whole : FnScope ["thing"] ["thing"] (defScope s__law_whole) := ⟨rfl, rfl, rfl, by decide +kernel, rfl, by decide +kernel, by decide +kernel⟩
noncomputable def F__law_whole : List D → Res Cell := runs 1 0 (sRet (mMap Cell.fz (vAnd (mOpt hIsi (aCons (gVar 0) (aCons (gC (.ty "int")) aNil))) (mOpt vNot (mOpt hIsi (aCons (gVar 0) (aCons (gC (.ty "bool")) aNil)))))))
theorem d__law_whole {P : Program} {w : World} {K : Fg} {mg : Str → Option Value} {base : Heap} {f : Addr} {fd : FuncData} (F : FunA K "_law_whole" "_law_whole" s__law_whole f fd) (B : Bn mg) : FnOk P w K mg base CX0 1 f fd ["thing"] (pureSp ⟨K, P, w, mg⟩ F__law_whole) :=
  fn_p0 (k := 0) F sc__law_whole rfl fun cdv A outer s H E hr =>
  (dss_one (ds_ret (de_f (df_and (df_isi rfl B.b_isinstance (da_cons (df_var (pv 0)) (da_cons (df_ty B.b_int (by decide +kernel)) da_nil))) (df_one (df_not (df_isi rfl B.b_isinstance (da_cons (df_var (pv 0)) (da_cons (df_ty B.b_bool (by decide +kernel)) da_nil)))))))))
end DL
namespace DL
open PySem PySem.Spec PyProof.Rows L2
noncomputable abbrev s0__law_whole : Stmt := topS 63
theorem sc0__law_whole : FnScope ["thing"] ["thing"] (defScope s0__law_whole) := ⟨rfl, rfl, rfl, by decide +kernel, rfl, by decide +kernel, by decide +kernel⟩
noncomputable def spWh : Sp := fun vs H Q _ => ∃ n : Int, vs = [.int n] ∧ Q (.bl true) H
theorem w__law_whole {P : Program} {w : World} {K : Fg} {mg : Str → Option Value} {base : Heap} {f : Addr} {fd : FuncData} (F : FunA K "_law_whole" "_law_whole" s0__law_whole f fd) (B : Bn mg) : FnW P w K mg base 1 f fd ["thing"] spWh := by
  refine fn_ofW (k := 0) F sc0__law_whole (fun vs H Q E h => ?_) fun cdv A outer s H vs Q E p hr h => ?_
  · obtain ⟨n, rfl, _⟩ := h; rfl
  · obtain ⟨n, rfl, q⟩ := h
    refine ⟨_, pss_one (ps_ret (pe_and (pe_callB call_isi rfl B.b_isinstance (by decide +kernel) (pa_cons (pv 0) (pa_cons (pe_bltn (v := .ty "int") rfl B.b_int (by decide +kernel) rfl) pa_nil)))
      (pe_one (pe_not (pe_callB call_isi rfl B.b_isinstance (by decide +kernel) (pa_cons (pv 0) (pa_cons (pe_bltn (v := .ty "bool") rfl B.b_bool (by decide +kernel) rfl) pa_nil))))))), ?_⟩
    have k1 : kitB "int" "int" = some true := by decide +kernel
    have k2 : kitB "int" "bool" = some false := by decide +kernel
    refine ⟨.int n, rfl, .int n, .ty "int", _, _, true, rfl, .ty "int", .base (.int n), kit_ty k1, ?_⟩
    refine ⟨true, rfl, ?_⟩
    show _
    refine ⟨.int n, rfl, .int n, .ty "bool", _, _, false, rfl, .ty "bool", .base (.int n), kit_ty k2, ?_⟩
    exact ⟨false, rfl, q⟩
noncomputable abbrev s__law_refused : Stmt := topS 78
theorem sc__law_refused : FnScope ["thing", "e"] ["thing"] (defScope s__law_refused) := ⟨rfl, rfl, rfl, by decide +kernel, rfl, by decide +kernel, by decide +kernel⟩
/-- what an error tells -/
noncomputable def toldAt (x : XD) : Option Int := if x.c = "NoForm" ∧ x.ns = [("at" : Str)] then match x.cs with
  | [.fz (.int n)] => some n
  | _ => none else none
noncomputable def F__law_refused : List D → Res Cell := fun ds => match ds with
  | [d] => match F_read_form [d] with
    | .ok _ => .ok (.fz (.int (-1)))
    | .ex x => (optR (toldAt x)).map fun n => .fz (.int n)
    | .stuck => .stuck
  | _ => .stuck
/-- what the text says of the errors -/
structure ErrK (K : Fg) (mg : Str → Option Value) : Prop where
  ex : ∃ PE NF A1 A2 A3 A4 A5 : Addr, mg "PadError" = some (.ref PE) ∧ mg "NoForm" = some (.ref NF) ∧ mg "NoNumber" = some (.ref A1) ∧ mg "NoRow" = some (.ref A2) ∧ mg "NoText" = some (.ref A3) ∧ mg "NoValue" = some (.ref A4) ∧ mg "TooWide" = some (.ref A5) ∧
    PySem.W.exmOne K (.ref NF) (.ref PE) = some true ∧ ExcC K NF ∧ XfC K NF ∧ PySem.W.findIn K (.ref NF) "at" = some none ∧ PySem.W.kitAny K (.ref NF) [.ref A1, .ref A2, .ref A3, .ref A4, .ref A5] = some false ∧
    PySem.W.kitOne K (.ref NF) (.type "ValueError") = some true ∧ PySem.W.kitOne K (.ref NF) (.ref NF) = some true
  ve : mg "ValueError" = none
theorem d__law_refused {P : Program} {w : World} {K : Fg} {mg : Str → Option Value} {base : Heap} {f fW : Addr} {fd fdW : FuncData} (F : FunA K "_law_refused" "_law_refused" s__law_refused f fd) (B : Bn mg) (R : ErrK K mg)
    (c_read_form : DCal P w K mg base (L2.CX P w) 7 "read_form" F_read_form) (FW : FunA K "_law_whole" "_law_whole" s0__law_whole fW fdW) (bW : Binds K fdW ["thing"] []) (mW : mg "_law_whole" = some (.ref fW)) :
    FnOk P w K mg base CX0 8 f fd ["thing"] (pureSp ⟨K, P, w, mg⟩ F__law_refused) := by
  obtain ⟨oc, od, dV, kV, doc, pm, an, cdv, ct, osl, rfl, lk, hcd, _⟩ := F.ex
  obtain ⟨PE, NF, A1, A2, A3, A4, A5, mPE, mNF, m1, m2, m3, m4, m5, exm, eC, xC, hno, ka, kv, kn⟩ := R.ex
  obtain ⟨fr, fdr, psr, Fr, mr, kr, br⟩ := c_read_form.ex
  refine fn_of (k := 7) lk hcd sc__law_refused (fun vs H Q E h => ?_) fun A outer s H vs Q E hr h => ?_
  · obtain ⟨G, ds, hs, r, h⟩ := h
    unfold F__law_refused at h
    split at h
    · rename_i d
      obtain ⟨v, rfl, _⟩ := repL1 r; rfl
    · exact h.elim
  refine ⟨_, pss_cons (ps_try_as (i := 1) (n := "e") (c := .ref PE) (Wout := fun _ _ _ _ => False) rfl rfl sc__law_refused.nd rfl rfl ⟨rfl, by decide, .inl mPE⟩ takes0
      (fun W pn xe tk ps => pss_one (ps_expr (pe_callS (E := WE W) Fr hr rfl mr kr br (passAt tk) (pa_cons (pv 0) pa_nil)) rfl))
      (fun a oe cls d pn hz hf => pss_cons (ps_if (PW.pt (pw_or (pt_val (pe_callB (call_isX hz hf) rfl B.b_isinstance (by decide +kernel) (pa_cons (pv 1) (pa_cons (pe_tup (pa_cons (pe_glob (v := .ref A1) rfl m1 rfl) (pa_cons (pe_glob (v := .ref A2) rfl m2 rfl) (pa_cons (pe_glob (v := .ref A3) rfl m3 rfl) (pa_cons (pe_glob (v := .ref A4) rfl m4 rfl) (pa_cons (pe_glob (v := .ref A5) rfl m5 rfl) pa_nil)))))) pa_nil))) (by intro _; rfl))
          (pw_or1 (pt_not (pt_val (pe_callB (call_isX hz hf) rfl B.b_isinstance (by decide +kernel) (pa_cons (pv 1) (pa_cons (pe_bltn (v := .ty "ValueError") rfl R.ve (by decide +kernel) rfl) pa_nil))) (by intro _; rfl))))))
          (pss_one (ps_ret (pe_un un_neg pe_int))) pss_nil)
        (pss_cons (ps_if (PW.pt (pw_and (pt_val (pe_callB (call_isX hz hf) rfl B.b_isinstance (by decide +kernel) (pa_cons (pv 1) (pa_cons (pe_glob (v := .ref NF) rfl mNF rfl) pa_nil))) (by intro _; rfl))
            (pw_and1 (pt_val (pe_callW (E := fun _ _ _ => False) (w__law_whole FW B) ((L2H.roomH_of hr).mono (by decide)) rfl mW FW.kp bW (pa_cons (pe_xf xC hno hz hf (pv 1)) pa_nil)) (by intro _; rfl)))))
          (pss_one (ps_ret (pe_xf xC hno hz hf (pv 1)))) pss_nil)
        (pss_one (ps_ret (pe_un un_neg pe_int))))))
    (pss_one (ps_ret (pe_un un_neg pe_int))), ?_⟩
  obtain ⟨G, ds, hs, r, h⟩ := h
  unfold F__law_refused at h
  split at h
  rotate_left
  · exact h.elim
  rename_i d
  obtain ⟨v, rfl, rd⟩ := repL1 r
  refine ⟨v, rfl, ?_⟩
  show pureSp _ F_read_form [v] H _ _
  refine ⟨G, [d], hs, RepL.one rd, ?_⟩
  cases hq : F_read_form [d] with
  | stuck => rw [hq] at h; exact h.elim
  | ok c =>
    rw [hq] at h
    intro v' G' H' s1 s2 s3 s4 cv
    refine ⟨1, rfl, ?_⟩
    exact h (.int (-1)) G' H' s1 s2 s3 s4 ⟨⟨_, rfl, rfl⟩, fun z => by cases z⟩
  | ex x =>
    rw [hq] at h
    obtain ⟨n, en, h⟩ := optR_sat (Res.sat_map h)
    intro ca od' G' H' hca s1 s2 s3 s4 rx
    unfold toldAt at en
    split at en
    rotate_left
    · cases en
    rename_i hc
    split at en
    rotate_left
    · cases en
    rename_i n' ecs
    cases en
    have : ca = NF := by
      have z : mg x.c = some (.ref ca) := hca
      rw [hc.1, mNF] at z; cases z; rfl
    subst this
    rcases rx with ⟨z, _⟩ | ⟨dd, xs, rfl, hdd, h0, cx, hl⟩
    · rw [hc.2] at z; cases z
    rw [ecs] at cx
    obtain ⟨w', r', rfl, hw, _, hr'⟩ := cx
    have hr'' : r' = [] := hr'
    subst hr''
    obtain ⟨w2, ew, rw2⟩ := hw
    cases ew
    have rw2' : w' = V.int n := rw2
    subst rw2'
    rw [hc.2] at hdd
    have hdd' : H' dd = some (.xd [(("at" : Str), V.int n)]) := hdd
    refine ⟨true, exm, fun _ a na => ?_, fun z => by cases z⟩
    have lk2 : List.lookup ("at" : Str) [(("at" : Str), V.int n)] = some (V.int n) := by rw [lookup_put, if_pos rfl]
    -- the first test
    have l5 : [V.ref A1, V.ref A2, V.ref A3, V.ref A4, V.ref A5].length ≤ sizeLine := by rw [sizeLine_eq]; show 5 ≤ 16777216; omega
    refine ⟨.ref a, rfl, l5, fun p hp => ?_⟩
    have npd : dd ≠ p := fun z => by rw [z, hp] at hdd'; cases hdd'
    have hd2 : upd H' p (.tup [V.ref A1, V.ref A2, V.ref A3, V.ref A4, V.ref A5]) dd = some (.xd [(("at" : Str), V.int n)]) := by rw [upd_ne npd]; exact hdd'
    refine ⟨ca, dd, _, false, rfl, eC, rfl, hd2, ⟨false, rfl, ?_⟩, .inr ⟨p, _, _, rfl, upd_same, .cons (.own A1) (.cons (.own A2) (.cons (.own A3) (.cons (.own A4) (.cons (.own A5) .nil)))), ka⟩⟩
    -- not isinstance(e, ValueError)
    refine ⟨.ref a, rfl, ca, dd, _, true, rfl, eC, rfl, hd2, ⟨true, rfl, ?_⟩, .inl ⟨_, _, rfl, .ty "ValueError", kv⟩⟩
    -- isinstance(e, NoForm) and _law_whole(e.at)
    refine ⟨.ref a, rfl, ca, dd, _, true, rfl, eC, rfl, hd2, ⟨true, rfl, ?_⟩, .inl ⟨_, _, rfl, .own ca, kn⟩⟩
    refine ⟨.ref a, rfl, rfl, rfl, dd, _, .int n, rfl, hd2, lk2, n, rfl, true, rfl, ?_⟩
    refine ⟨.ref a, rfl, rfl, rfl, dd, _, .int n, rfl, hd2, lk2, ?_⟩
    have sU : Same H' (upd H' p (.tup [V.ref A1, V.ref A2, V.ref A3, V.ref A4, V.ref A5])) := fun b o e => by rw [upd_ne (ne_of_none e hp)]; exact e
    exact h (.int n) G' _ s1 (s2.trans sU) (s3.trans sU) s4 ⟨⟨_, rfl, rfl⟩, fun z => by cases z⟩
end DL
namespace DL
open PySem PySem.Spec PyProof.Rows L2
noncomputable abbrev s__law_pick : Stmt := topS 64
theorem sc__law_pick : FnScope ["cell", "salt", "many", "one", "two"] ["cell", "salt", "many"] (defScope s__law_pick) := ⟨rfl, rfl, rfl, by decide +kernel, rfl, by decide +kernel, by decide +kernel⟩
noncomputable def F__law_pick : List D → Res Cell := runs 3 2 (sSeq (sIf (mAnd (mOpt2 hGt (gVar 0) (mOpt2 hPow (gC (.int 10)) (gC (.int 18)))) (mOpt2 hGt (mOpt2 hShr (gVar 0) (mOpt2 hMul (gC (.int 20)) (gVar 1))) (gC (.int 0)))) (sRet (mMap Cell.fz (mOpt2 hMod (mOpt2 hMod (mOpt2 hShr (gVar 0) (mOpt2 hMul (gC (.int 20)) (gVar 1))) (gC (.int 1048576))) (gVar 2)))) sNil)
  (sSeq (sSet 3 (mMap Cell.fz (mOpt2 hMod (mOpt2 hAdd (mOpt2 hAdd (mOpt2 hMod (gVar 0) (gC (.int 1000000007))) (gC (.int 314159265))) (mOpt2 hMul (gC (.int 104729)) (gVar 1))) (gC (.int 998244353)))))
  (sSeq (sSet 3 (mMap Cell.fz (mOpt2 hMod (mOpt2 hMul (gVar 3) (gVar 3)) (gC (.int 998244353)))))
  (sSeq (sSet 4 (mMap Cell.fz (mOpt2 hMod (mOpt2 hMul (mOpt2 hAdd (gVar 3) (gC (.int 271828183))) (mOpt2 hAdd (mOpt2 hAdd (mOpt2 hFdiv (gVar 3) (gC (.int 1024))) (gC (.int 48271))) (gVar 1))) (gC (.int 2147483629)))))
  (sRet (mMap Cell.fz (mOpt2 hMod (mOpt2 hFdiv (gVar 4) (gC (.int 128))) (gVar 2))))))))
theorem d__law_pick {P : Program} {w : World} {K : Fg} {mg : Str → Option Value} {base : Heap} {f : Addr} {fd : FuncData} (F : FunA K "_law_pick" "_law_pick" s__law_pick f fd) (B : Bn mg) : FnOk P w K mg base CX0 1 f fd ["cell", "salt", "many"] (pureSp ⟨K, P, w, mg⟩ F__law_pick) :=
  fn_p0 (k := 0) F sc__law_pick rfl fun cdv A outer s H E hr =>
  (dss_cons (ds_if (dt_w (dw_and (dt_cmpD cd_gt (df_var (pv 0)) (df_pow df_int df_int)) (dw_and1 (dt_cmpD cd_gt (df_shr (df_var (pv 0)) (df_mul df_int (df_var (pv 1)))) df_int)))) (dss_one (ds_ret (de_f (df_mod (df_mod (df_shr (df_var (pv 0)) (df_mul df_int (df_var (pv 1)))) df_int) (df_var (pv 2)))))) dss_nil)
  (dss_cons (ds_set (i := 3) sc__law_pick.nd rfl (by first | exact .inl rfl | exact .inr rfl) (de_f (df_mod (df_add (df_add (df_mod (df_var (pv 0)) df_int) df_int) (df_mul df_int (df_var (pv 1)))) df_int)))
  (dss_cons (ds_set (i := 3) sc__law_pick.nd rfl (by first | exact .inl rfl | exact .inr rfl) (de_f (df_mod (df_mul (df_var (pv 3)) (df_var (pv 3))) df_int)))
  (dss_cons (ds_set (i := 4) sc__law_pick.nd rfl (by first | exact .inl rfl | exact .inr rfl) (de_f (df_mod (df_mul (df_add (df_var (pv 3)) df_int) (df_add (df_add (df_fdiv (df_var (pv 3)) df_int) df_int) (df_var (pv 1)))) df_int)))
  (dss_one (ds_ret (de_f (df_mod (df_fdiv (df_var (pv 4)) df_int) (df_var (pv 2))))))))))
noncomputable abbrev s__law_all_signs : Stmt := topS 65
theorem sc__law_all_signs : FnScope [] [] (defScope s__law_all_signs) := ⟨rfl, rfl, rfl, by decide +kernel, rfl, by decide +kernel, by decide +kernel⟩
noncomputable def F__law_all_signs : List D → Res Cell := runs 0 0 (sRet (mMap Cell.fz (gC (.str " !\"#$&'()*+,-./0123456789:;<=>?@ABCDEFGHIJKLMNOPQRSTUVWXYZ[\\]^_`abcdefghijklmnopqrstuvwxyz{|}~"))))
theorem d__law_all_signs {P : Program} {w : World} {K : Fg} {mg : Str → Option Value} {base : Heap} {f : Addr} {fd : FuncData} (F : FunA K "_law_all_signs" "_law_all_signs" s__law_all_signs f fd) (B : Bn mg) : FnOk P w K mg base CX0 1 f fd [] (pureSp ⟨K, P, w, mg⟩ F__law_all_signs) :=
  fn_p0 (k := 0) F sc__law_all_signs rfl fun cdv A outer s H E hr =>
  (dss_one (ds_ret (de_f df_str)))
noncomputable abbrev s__law_drawn_sign : Stmt := topS 66
theorem sc__law_drawn_sign : FnScope ["cell", "salt", "some"] ["cell", "salt"] (defScope s__law_drawn_sign) := ⟨rfl, rfl, rfl, by decide +kernel, rfl, by decide +kernel, by decide +kernel⟩
noncomputable def F__law_drawn_sign : List D → Res Cell := runs 2 1 (sSeq (sSet 2 (mMap Cell.fz (gC (.str " 0-+(1*)_,.9f"))))
  (sSeq (sIf (mOpt2 hGt (mOpt Cell.toD (gCall F__law_pick (aCons (gVar 0) (aCons (gVar 1) (aCons (gC (.int 3)) aNil))))) (gC (.int 0))) (sRet (mMap Cell.fz (mOpt2 hIx (gVar 2) (mOpt Cell.toD (gCall F__law_pick (aCons (gVar 0) (aCons (mOpt2 hAdd (gVar 1) (gC (.int 1))) (aCons (mOpt hLen (aCons (gVar 2) aNil)) aNil)))))))) sNil)
  (sRet (mMap Cell.fz (mOpt2 hIx (mOpt Cell.toD (gCall F__law_all_signs aNil)) (mOpt Cell.toD (gCall F__law_pick (aCons (gVar 0) (aCons (mOpt2 hAdd (gVar 1) (gC (.int 2))) (aCons (gC (.int 94)) aNil))))))))))
theorem d__law_drawn_sign {P : Program} {w : World} {K : Fg} {mg : Str → Option Value} {base : Heap} {f : Addr} {fd : FuncData} (F : FunA K "_law_drawn_sign" "_law_drawn_sign" s__law_drawn_sign f fd) (B : Bn mg) (c__law_pick : DCal P w K mg base CX0 1 "_law_pick" F__law_pick) (c__law_all_signs : DCal P w K mg base CX0 1 "_law_all_signs" F__law_all_signs) : FnOk P w K mg base CX0 2 f fd ["cell", "salt"] (pureSp ⟨K, P, w, mg⟩ F__law_drawn_sign) :=
  fn_p0 (k := 1) F sc__law_drawn_sign rfl fun cdv A outer s H E hr =>
  (dss_cons (ds_set (i := 2) sc__law_drawn_sign.nd rfl (by first | exact .inl rfl | exact .inr rfl) (de_f df_str))
  (dss_cons (ds_if (dt_cmpD cd_gt (df_e (de_call c__law_pick hr (by decide) rfl (da_cons (df_var (pv 0)) (da_cons (df_var (pv 1)) (da_cons df_int da_nil))))) df_int) (dss_one (ds_ret (de_f (df_ix (df_var (pv 2)) (df_e (de_call c__law_pick hr (by decide) rfl (da_cons (df_var (pv 0)) (da_cons (df_add (df_var (pv 1)) df_int) (da_cons (df_len rfl B.b_len (da_cons (df_var (pv 2)) da_nil)) da_nil))))))))) dss_nil)
  (dss_one (ds_ret (de_f (df_ix (df_e (de_call0 c__law_all_signs hr (by decide) rfl)) (df_e (de_call c__law_pick hr (by decide) rfl (da_cons (df_var (pv 0)) (da_cons (df_add (df_var (pv 1)) df_int) (da_cons df_int da_nil)))))))))))
noncomputable abbrev s__law_number_spec : Stmt := topS 67
theorem sc__law_number_spec : FnScope ["cell", "other", "small", "figures", "places", "base", "sign", "size", "way", "signs", "widths", "width", "side", "strict"] ["cell", "other", "small"] (defScope s__law_number_spec) := ⟨rfl, rfl, rfl, by decide +kernel, rfl, by decide +kernel, by decide +kernel⟩
noncomputable def F__law_number_spec : List D → Res Cell := runs 3 11 (sSeq (sSet 3 (mMap Cell.fz (mOpt2 hAdd (gC (.int 1)) (mOpt Cell.toD (gCall F__law_pick (aCons (gVar 0) (aCons (gC (.int 1)) (aCons (mOpt2 hIx (mOpt Cell.toD (mMap Cell.ow (mOpt okLen (aCons (gC (.int 12)) (aCons (gC (.int 2)) aNil))))) (gVar 2)) aNil))))))))
  (sSeq (sSet 4 (gCall F__law_pick (aCons (gVar 0) (aCons (gC (.int 2)) (aCons (mOpt2 hIx (mOpt Cell.toD (mMap Cell.ow (mOpt okLen (aCons (gC (.int 7)) (aCons (gC (.int 2)) aNil))))) (gVar 2)) aNil)))))
  (sSeq (sSet 5 (mMap Cell.fz (mOpt2 hIx (mOpt Cell.toD (mMap Cell.ow (mOpt okLen (aCons (gC (.int 10)) (aCons (gC (.int 2)) (aCons (mOpt2 hIx (mOpt Cell.toD (mMap Cell.ow (mOpt okLen (aCons (gC (.int 16)) (aCons (gC (.int 3)) aNil))))) (gVar 2)) (aCons (mOpt2 hIx (mOpt Cell.toD (mMap Cell.ow (mOpt okLen (aCons (mOpt2 hAdd (gC (.int 2)) (mOpt Cell.toD (gCall F__law_pick (aCons (gVar 0) (aCons (gC (.int 3)) (aCons (gC (.int 15)) aNil)))))) (aCons (gC (.int 10)) aNil))))) (gVar 2)) aNil))))))) (mOpt Cell.toD (gCall F__law_pick (aCons (gVar 0) (aCons (gC (.int 4)) (aCons (gC (.int 4)) aNil))))))))
  (sSeq (sSet 6 (mMap Cell.fz (mOpt2 hIx (mOpt Cell.toD (mMap Cell.ow (mOpt okLen (aCons (gC (.str "minus")) (aCons (gC (.str "plus")) (aCons (gC (.str "blank")) (aCons (gC (.str "brackets")) (aCons (gC (.str "behind")) aNil)))))))) (mOpt Cell.toD (gCall F__law_pick (aCons (gVar 0) (aCons (gC (.int 5)) (aCons (gC (.int 5)) aNil))))))))
  (sSeq (sSet 7 (mMap Cell.fz (mOpt2 hIx (mOpt Cell.toD (mMap Cell.ow (mOpt okLen (aCons (gC (.int 0)) (aCons (gC (.int 3)) (aCons (mOpt2 hAdd (gC (.int 1)) (mOpt Cell.toD (gCall F__law_pick (aCons (gVar 0) (aCons (gC (.int 6)) (aCons (gC (.int 9)) aNil)))))) aNil)))))) (mOpt Cell.toD (gCall F__law_pick (aCons (gVar 0) (aCons (gC (.int 7)) (aCons (gC (.int 3)) aNil))))))))
  (sSeq (sSet 8 (mMap Cell.fz (mOpt2 hIx (mOpt Cell.toD (mMap Cell.ow (mOpt okLen (aCons (gC (.str "down")) (aCons (gC (.str "up")) (aCons (gC (.str "cut")) (aCons (gC (.str "near")) (aCons (gC (.str "even")) aNil)))))))) (mOpt Cell.toD (gCall F__law_pick (aCons (gVar 0) (aCons (gC (.int 8)) (aCons (gC (.int 5)) aNil))))))))
  (sSeq (sSet 9 (mMap Cell.fz (mMap D.tup (mOpt okLen (aCons (mOpt Cell.toD (gCall F__law_drawn_sign (aCons (gVar 1) (aCons (gC (.int 10)) aNil)))) (aCons (mOpt Cell.toD (gCall F__law_drawn_sign (aCons (gVar 1) (aCons (gC (.int 20)) aNil)))) (aCons (mOpt Cell.toD (gCall F__law_drawn_sign (aCons (gVar 1) (aCons (gC (.int 30)) aNil)))) aNil)))))))
  (sSeq (sSet 10 (mMap Cell.ow (mOpt okLen (aCons (gC (.int 0)) (aCons (mOpt2 hAdd (gC (.int 1)) (mOpt Cell.toD (gCall F__law_pick (aCons (gVar 1) (aCons (gC (.int 40)) (aCons (mOpt2 hIx (mOpt Cell.toD (mMap Cell.ow (mOpt okLen (aCons (gC (.int 40)) (aCons (gC (.int 5)) aNil))))) (gVar 2)) aNil)))))) (aCons (mOpt2 hAdd (gC (.int 3)) (mOpt Cell.toD (gCall F__law_pick (aCons (gVar 1) (aCons (gC (.int 41)) (aCons (mOpt2 hIx (mOpt Cell.toD (mMap Cell.ow (mOpt okLen (aCons (gC (.int 8)) (aCons (gC (.int 3)) aNil))))) (gVar 2)) aNil)))))) aNil))))))
  (sSeq (sSet 11 (mMap Cell.fz (gIxN 10 (mOpt Cell.toD (gCall F__law_pick (aCons (gVar 1) (aCons (gC (.int 42)) (aCons (gC (.int 3)) aNil))))))))
  (sSeq (sSet 12 (mMap Cell.fz (mOpt2 hIx (mOpt Cell.toD (mMap Cell.ow (mOpt okLen (aCons (gC (.str "right")) (aCons (gC (.str "left")) (aCons (gC (.str "middle")) (aCons (gC (.str "inside")) aNil))))))) (mOpt Cell.toD (gCall F__law_pick (aCons (gVar 1) (aCons (gC (.int 43)) (aCons (gC (.int 4)) aNil))))))))
  (sSeq (sSet 13 (mMap Cell.fz (mMap D.bl (mOpt2 hEqS (mOpt Cell.toD (gCall F__law_pick (aCons (gVar 1) (aCons (gC (.int 44)) (aCons (gC (.int 3)) aNil))))) (gC (.int 0))))))
  (sRet (mMap Cell.fz (mMap D.tup (mOpt okLen (aCons (gC (.str "number")) (aCons (gVar 3) (aCons (gVar 4) (aCons (gVar 5) (aCons (gVar 6) (aCons (gVar 7) (aCons (mOpt2 hIx (gVar 9) (gC (.int 0))) (aCons (mOpt2 hIx (gVar 9) (gC (.int 1))) (aCons (gVar 8) (aCons (gVar 11) (aCons (mOpt2 hIx (gVar 9) (gC (.int 2))) (aCons (gVar 12) (aCons (gVar 13) aNil))))))))))))))))))))))))))))
theorem d__law_number_spec {P : Program} {w : World} {K : Fg} {mg : Str → Option Value} {base : Heap} {f : Addr} {fd : FuncData} (F : FunA K "_law_number_spec" "_law_number_spec" s__law_number_spec f fd) (B : Bn mg) (c__law_pick : DCal P w K mg base CX0 1 "_law_pick" F__law_pick) (c__law_drawn_sign : DCal P w K mg base CX0 2 "_law_drawn_sign" F__law_drawn_sign) : FnOk P w K mg base CX0 3 f fd ["cell", "other", "small"] (pureSp ⟨K, P, w, mg⟩ F__law_number_spec) :=
  fn_p0 (k := 2) F sc__law_number_spec rfl fun cdv A outer s H E hr =>
  (dss_cons (ds_set (i := 3) sc__law_number_spec.nd rfl (by first | exact .inl rfl | exact .inr rfl) (de_f (df_add df_int (df_e (de_call c__law_pick hr (by decide) rfl (da_cons (df_var (pv 0)) (da_cons df_int (da_cons (df_ix (df_e (de_lst (da_cons df_int (da_cons df_int da_nil)))) (df_var (pv 2))) da_nil))))))))
  (dss_cons (ds_set (i := 4) sc__law_number_spec.nd rfl (by first | exact .inl rfl | exact .inr rfl) (de_call c__law_pick hr (by decide) rfl (da_cons (df_var (pv 0)) (da_cons df_int (da_cons (df_ix (df_e (de_lst (da_cons df_int (da_cons df_int da_nil)))) (df_var (pv 2))) da_nil)))))
  (dss_cons (ds_set (i := 5) sc__law_number_spec.nd rfl (by first | exact .inl rfl | exact .inr rfl) (de_f (df_ix (df_e (de_lst (da_cons df_int (da_cons df_int (da_cons (df_ix (df_e (de_lst (da_cons df_int (da_cons df_int da_nil)))) (df_var (pv 2))) (da_cons (df_ix (df_e (de_lst (da_cons (df_add df_int (df_e (de_call c__law_pick hr (by decide) rfl (da_cons (df_var (pv 0)) (da_cons df_int (da_cons df_int da_nil)))))) (da_cons df_int da_nil)))) (df_var (pv 2))) da_nil)))))) (df_e (de_call c__law_pick hr (by decide) rfl (da_cons (df_var (pv 0)) (da_cons df_int (da_cons df_int da_nil))))))))
  (dss_cons (ds_set (i := 6) sc__law_number_spec.nd rfl (by first | exact .inl rfl | exact .inr rfl) (de_f (df_ix (df_e (de_lst (da_cons df_str (da_cons df_str (da_cons df_str (da_cons df_str (da_cons df_str da_nil))))))) (df_e (de_call c__law_pick hr (by decide) rfl (da_cons (df_var (pv 0)) (da_cons df_int (da_cons df_int da_nil))))))))
  (dss_cons (ds_set (i := 7) sc__law_number_spec.nd rfl (by first | exact .inl rfl | exact .inr rfl) (de_f (df_ix (df_e (de_lst (da_cons df_int (da_cons df_int (da_cons (df_add df_int (df_e (de_call c__law_pick hr (by decide) rfl (da_cons (df_var (pv 0)) (da_cons df_int (da_cons df_int da_nil)))))) da_nil))))) (df_e (de_call c__law_pick hr (by decide) rfl (da_cons (df_var (pv 0)) (da_cons df_int (da_cons df_int da_nil))))))))
  (dss_cons (ds_set (i := 8) sc__law_number_spec.nd rfl (by first | exact .inl rfl | exact .inr rfl) (de_f (df_ix (df_e (de_lst (da_cons df_str (da_cons df_str (da_cons df_str (da_cons df_str (da_cons df_str da_nil))))))) (df_e (de_call c__law_pick hr (by decide) rfl (da_cons (df_var (pv 0)) (da_cons df_int (da_cons df_int da_nil))))))))
  (dss_cons (ds_set (i := 9) sc__law_number_spec.nd rfl (by first | exact .inl rfl | exact .inr rfl) (de_f (df_tup (da_cons (df_e (de_call c__law_drawn_sign hr (by decide) rfl (da_cons (df_var (pv 1)) (da_cons df_int da_nil)))) (da_cons (df_e (de_call c__law_drawn_sign hr (by decide) rfl (da_cons (df_var (pv 1)) (da_cons df_int da_nil)))) (da_cons (df_e (de_call c__law_drawn_sign hr (by decide) rfl (da_cons (df_var (pv 1)) (da_cons df_int da_nil)))) da_nil))))))
  (dss_cons (ds_set (i := 10) sc__law_number_spec.nd rfl (by first | exact .inl rfl | exact .inr rfl) (de_lst (da_cons df_int (da_cons (df_add df_int (df_e (de_call c__law_pick hr (by decide) rfl (da_cons (df_var (pv 1)) (da_cons df_int (da_cons (df_ix (df_e (de_lst (da_cons df_int (da_cons df_int da_nil)))) (df_var (pv 2))) da_nil)))))) (da_cons (df_add df_int (df_e (de_call c__law_pick hr (by decide) rfl (da_cons (df_var (pv 1)) (da_cons df_int (da_cons (df_ix (df_e (de_lst (da_cons df_int (da_cons df_int da_nil)))) (df_var (pv 2))) da_nil)))))) da_nil)))))
  (dss_cons (ds_set (i := 11) sc__law_number_spec.nd rfl (by first | exact .inl rfl | exact .inr rfl) (de_f (df_ixN (pv 10) (df_e (de_call c__law_pick hr (by decide) rfl (da_cons (df_var (pv 1)) (da_cons df_int (da_cons df_int da_nil))))))))
  (dss_cons (ds_set (i := 12) sc__law_number_spec.nd rfl (by first | exact .inl rfl | exact .inr rfl) (de_f (df_ix (df_e (de_lst (da_cons df_str (da_cons df_str (da_cons df_str (da_cons df_str da_nil)))))) (df_e (de_call c__law_pick hr (by decide) rfl (da_cons (df_var (pv 1)) (da_cons df_int (da_cons df_int da_nil))))))))
  (dss_cons (ds_set (i := 13) sc__law_number_spec.nd rfl (by first | exact .inl rfl | exact .inr rfl) (de_f (df_cmpD cd_eqS (df_e (de_call c__law_pick hr (by decide) rfl (da_cons (df_var (pv 1)) (da_cons df_int (da_cons df_int da_nil))))) df_int)))
  (dss_one (ds_ret (de_f (df_tup (da_cons df_str (da_cons (df_var (pv 3)) (da_cons (df_var (pv 4)) (da_cons (df_var (pv 5)) (da_cons (df_var (pv 6)) (da_cons (df_var (pv 7)) (da_cons (df_ix (df_var (pv 9)) df_int) (da_cons (df_ix (df_var (pv 9)) df_int) (da_cons (df_var (pv 8)) (da_cons (df_var (pv 11)) (da_cons (df_ix (df_var (pv 9)) df_int) (da_cons (df_var (pv 12)) (da_cons (df_var (pv 13)) da_nil))))))))))))))))))))))))))))
noncomputable abbrev s__law_word_spec : Stmt := topS 68
theorem sc__law_word_spec : FnScope ["cell", "other", "small", "start", "step", "signs", "least", "most", "fill", "width", "side"] ["cell", "other", "small"] (defScope s__law_word_spec) := ⟨rfl, rfl, rfl, by decide +kernel, rfl, by decide +kernel, by decide +kernel⟩
noncomputable def F__law_word_spec : List D → Res Cell := runs 3 8 (sSeq (sSet 3 (gCall F__law_pick (aCons (gVar 0) (aCons (gC (.int 51)) (aCons (gC (.int 94)) aNil)))))
  (sSeq (sSet 4 (mMap Cell.fz (mOpt2 hAdd (gC (.int 1)) (mOpt Cell.toD (gCall F__law_pick (aCons (gVar 0) (aCons (gC (.int 52)) (aCons (gC (.int 9)) aNil))))))))
  (sSeq (sSet 5 (mMap Cell.fz (gSlS (gSl3 (mOpt Cell.toD (gCall F__law_all_signs aNil)) (mPart (some (gVar 3))) (mPart none) (mPart (some (gVar 4)))) (mPart none) (mPart (some (mOpt2 hAdd (gC (.int 1)) (mOpt Cell.toD (gCall F__law_pick (aCons (gVar 0) (aCons (gC (.int 53)) (aCons (mOpt2 hIx (mOpt Cell.toD (mMap Cell.ow (mOpt okLen (aCons (gC (.int 94)) (aCons (gC (.int 3)) aNil))))) (gVar 2)) aNil)))))))))))
  (sSeq (sSet 6 (gCall F__law_pick (aCons (gVar 1) (aCons (gC (.int 54)) (aCons (mOpt2 hIx (mOpt Cell.toD (mMap Cell.ow (mOpt okLen (aCons (gC (.int 25)) (aCons (gC (.int 3)) aNil))))) (gVar 2)) aNil)))))
  (sSeq (sSet 7 (mMap Cell.fz (mOpt hMin2 (aCons (gC (.int 24)) (aCons (mOpt2 hAdd (gVar 6) (mOpt Cell.toD (gCall F__law_pick (aCons (gVar 1) (aCons (gC (.int 55)) (aCons (mOpt2 hIx (mOpt Cell.toD (mMap Cell.ow (mOpt okLen (aCons (gC (.int 25)) (aCons (gC (.int 3)) aNil))))) (gVar 2)) aNil)))))) aNil)))))
  (sSeq (sSet 8 (mMap Cell.fz (mOpt2 hIx (mOpt Cell.toD (mMap Cell.ow (mOpt okLen (aCons (mOpt2 hIx (gVar 5) (gC (.int 0))) (aCons (mOpt Cell.toD (gCall F__law_drawn_sign (aCons (gVar 1) (aCons (gC (.int 56)) aNil)))) (aCons (mOpt2 hIx (gVar 5) (mOpt hNeg (gC (.int 1)))) aNil)))))) (mOpt Cell.toD (gCall F__law_pick (aCons (gVar 1) (aCons (gC (.int 59)) (aCons (gC (.int 3)) aNil))))))))
  (sSeq (sSet 9 (mMap Cell.fz (mOpt2 hIx (mOpt Cell.toD (mMap Cell.ow (mOpt okLen (aCons (gC (.int 0)) (aCons (mOpt2 hAdd (gC (.int 1)) (mOpt Cell.toD (gCall F__law_pick (aCons (gVar 1) (aCons (gC (.int 60)) (aCons (mOpt2 hIx (mOpt Cell.toD (mMap Cell.ow (mOpt okLen (aCons (gC (.int 40)) (aCons (gC (.int 5)) aNil))))) (gVar 2)) aNil)))))) (aCons (gVar 7) aNil)))))) (mOpt Cell.toD (gCall F__law_pick (aCons (gVar 1) (aCons (gC (.int 61)) (aCons (gC (.int 3)) aNil))))))))
  (sSeq (sSet 10 (mMap Cell.fz (mOpt2 hIx (mOpt Cell.toD (mMap Cell.ow (mOpt okLen (aCons (gC (.str "left")) (aCons (gC (.str "right")) (aCons (gC (.str "middle")) aNil)))))) (mOpt Cell.toD (gCall F__law_pick (aCons (gVar 1) (aCons (gC (.int 62)) (aCons (gC (.int 3)) aNil))))))))
  (sRet (mMap Cell.fz (mMap D.tup (mOpt okLen (aCons (gC (.str "word")) (aCons (gVar 5) (aCons (gVar 6) (aCons (gVar 7) (aCons (gVar 9) (aCons (gVar 8) (aCons (gVar 10) (aCons (mMap D.bl (mOpt2 hEqS (mOpt Cell.toD (gCall F__law_pick (aCons (gVar 1) (aCons (gC (.int 63)) (aCons (gC (.int 3)) aNil))))) (gC (.int 0)))) aNil))))))))))))))))))))
theorem d__law_word_spec {P : Program} {w : World} {K : Fg} {mg : Str → Option Value} {base : Heap} {f : Addr} {fd : FuncData} (F : FunA K "_law_word_spec" "_law_word_spec" s__law_word_spec f fd) (B : Bn mg) (c__law_pick : DCal P w K mg base CX0 1 "_law_pick" F__law_pick) (c__law_all_signs : DCal P w K mg base CX0 1 "_law_all_signs" F__law_all_signs) (c__law_drawn_sign : DCal P w K mg base CX0 2 "_law_drawn_sign" F__law_drawn_sign) : FnOk P w K mg base CX0 3 f fd ["cell", "other", "small"] (pureSp ⟨K, P, w, mg⟩ F__law_word_spec) :=
  fn_p0 (k := 2) F sc__law_word_spec rfl fun cdv A outer s H E hr =>
  (dss_cons (ds_set (i := 3) sc__law_word_spec.nd rfl (by first | exact .inl rfl | exact .inr rfl) (de_call c__law_pick hr (by decide) rfl (da_cons (df_var (pv 0)) (da_cons df_int (da_cons df_int da_nil)))))
  (dss_cons (ds_set (i := 4) sc__law_word_spec.nd rfl (by first | exact .inl rfl | exact .inr rfl) (de_f (df_add df_int (df_e (de_call c__law_pick hr (by decide) rfl (da_cons (df_var (pv 0)) (da_cons df_int (da_cons df_int da_nil))))))))
  (dss_cons (ds_set (i := 5) sc__law_word_spec.nd rfl (by first | exact .inl rfl | exact .inr rfl) (de_f (df_slS (df_slS3 (df_e (de_call0 c__law_all_signs hr (by decide) rfl)) (dp_some (df_var (pv 3))) dp_none (dp_some (df_var (pv 4)))) dp_none (dp_some (df_add df_int (df_e (de_call c__law_pick hr (by decide) rfl (da_cons (df_var (pv 0)) (da_cons df_int (da_cons (df_ix (df_e (de_lst (da_cons df_int (da_cons df_int da_nil)))) (df_var (pv 2))) da_nil))))))))))
  (dss_cons (ds_set (i := 6) sc__law_word_spec.nd rfl (by first | exact .inl rfl | exact .inr rfl) (de_call c__law_pick hr (by decide) rfl (da_cons (df_var (pv 1)) (da_cons df_int (da_cons (df_ix (df_e (de_lst (da_cons df_int (da_cons df_int da_nil)))) (df_var (pv 2))) da_nil)))))
  (dss_cons (ds_set (i := 7) sc__law_word_spec.nd rfl (by first | exact .inl rfl | exact .inr rfl) (de_f (df_min2 rfl rfl B.b_min (da_cons df_int (da_cons (df_add (df_var (pv 6)) (df_e (de_call c__law_pick hr (by decide) rfl (da_cons (df_var (pv 1)) (da_cons df_int (da_cons (df_ix (df_e (de_lst (da_cons df_int (da_cons df_int da_nil)))) (df_var (pv 2))) da_nil)))))) da_nil)))))
  (dss_cons (ds_set (i := 8) sc__law_word_spec.nd rfl (by first | exact .inl rfl | exact .inr rfl) (de_f (df_ix (df_e (de_lst (da_cons (df_ix (df_var (pv 5)) df_int) (da_cons (df_e (de_call c__law_drawn_sign hr (by decide) rfl (da_cons (df_var (pv 1)) (da_cons df_int da_nil)))) (da_cons (df_ix (df_var (pv 5)) (df_neg df_int)) da_nil))))) (df_e (de_call c__law_pick hr (by decide) rfl (da_cons (df_var (pv 1)) (da_cons df_int (da_cons df_int da_nil))))))))
  (dss_cons (ds_set (i := 9) sc__law_word_spec.nd rfl (by first | exact .inl rfl | exact .inr rfl) (de_f (df_ix (df_e (de_lst (da_cons df_int (da_cons (df_add df_int (df_e (de_call c__law_pick hr (by decide) rfl (da_cons (df_var (pv 1)) (da_cons df_int (da_cons (df_ix (df_e (de_lst (da_cons df_int (da_cons df_int da_nil)))) (df_var (pv 2))) da_nil)))))) (da_cons (df_var (pv 7)) da_nil))))) (df_e (de_call c__law_pick hr (by decide) rfl (da_cons (df_var (pv 1)) (da_cons df_int (da_cons df_int da_nil))))))))
  (dss_cons (ds_set (i := 10) sc__law_word_spec.nd rfl (by first | exact .inl rfl | exact .inr rfl) (de_f (df_ix (df_e (de_lst (da_cons df_str (da_cons df_str (da_cons df_str da_nil))))) (df_e (de_call c__law_pick hr (by decide) rfl (da_cons (df_var (pv 1)) (da_cons df_int (da_cons df_int da_nil))))))))
  (dss_one (ds_ret (de_f (df_tup (da_cons df_str (da_cons (df_var (pv 5)) (da_cons (df_var (pv 6)) (da_cons (df_var (pv 7)) (da_cons (df_var (pv 9)) (da_cons (df_var (pv 8)) (da_cons (df_var (pv 10)) (da_cons (df_cmpD cd_eqS (df_e (de_call c__law_pick hr (by decide) rfl (da_cons (df_var (pv 1)) (da_cons df_int (da_cons df_int da_nil))))) df_int) da_nil))))))))))))))))))))
noncomputable abbrev s__law_sets : Stmt := topS 72
theorem sc__law_sets : FnScope ["lower"] [] (defScope s__law_sets) := ⟨rfl, rfl, rfl, by decide +kernel, rfl, by decide +kernel, by decide +kernel⟩
noncomputable def F__law_sets : List D → Res Cell := runs 0 1 (sSeq (sSet 0 (mMap Cell.fz (gC (.str "abcdefghijklmnopqrstuvwxyz"))))
  (sRet (mMap Cell.ow (mOpt okLen (aCons (mMap D.tup (mOpt okLen (aCons (gC (.str "lower")) (aCons (gVar 0) aNil)))) (aCons (mMap D.tup (mOpt okLen (aCons (gC (.str "upper")) (aCons (gBM isStrD hUpper (gVar 0) aNil) aNil)))) (aCons (mMap D.tup (mOpt okLen (aCons (gC (.str "figures")) (aCons (gC (.str "0123456789")) aNil)))) (aCons (mMap D.tup (mOpt okLen (aCons (gC (.str "all")) (aCons (gSlS (mOpt Cell.toD (gCall F__law_all_signs aNil)) (mPart (some (gC (.int 1)))) (mPart none)) aNil)))) aNil))))))))
theorem d__law_sets {P : Program} {w : World} {K : Fg} {mg : Str → Option Value} {base : Heap} {f : Addr} {fd : FuncData} (F : FunA K "_law_sets" "_law_sets" s__law_sets f fd) (B : Bn mg) (c__law_all_signs : DCal P w K mg base CX0 1 "_law_all_signs" F__law_all_signs) : FnOk P w K mg base CX0 2 f fd [] (pureSp ⟨K, P, w, mg⟩ F__law_sets) :=
  fn_p0 (k := 1) F sc__law_sets rfl fun cdv A outer s H E hr =>
  (dss_cons (ds_set (i := 0) sc__law_sets.nd rfl (by first | exact .inl rfl | exact .inr rfl) (de_f df_str))
  (dss_one (ds_ret (de_lst (da_cons (df_tup (da_cons df_str (da_cons (df_var (pv 0)) da_nil))) (da_cons (df_tup (da_cons df_str (da_cons (df_upper (df_var (pv 0))) da_nil))) (da_cons (df_tup (da_cons df_str (da_cons df_str da_nil))) (da_cons (df_tup (da_cons df_str (da_cons (df_slS (df_e (de_call0 c__law_all_signs hr (by decide) rfl)) (dp_some df_int) dp_none) da_nil))) da_nil))))))))
noncomputable abbrev s__law_near_names : Stmt := topS 69
theorem sc__law_near_names : FnScope ["cell", "many", "signs", "base", "way", "at", "size", "step", "found", "k", "turn", "sign"] ["cell", "many"] (defScope s__law_near_names) := ⟨rfl, rfl, rfl, by decide +kernel, rfl, by decide +kernel, by decide +kernel⟩
noncomputable def F__law_near_names : List D → Res Cell := runs 2 10 (sSeq (sSet 2 (mMap Cell.fz (gSlS (mOpt Cell.toD (gCall F__law_all_signs aNil)) (mPart (some (gC (.int 1)))) (mPart none))))
  (sSeq (sSet 3 (mMap Cell.fz (gBM isStrD hJoin (gC (.str "")) (aCons (mOpt Cell.toD (gComp (mOpt hRng1 (aCons (gC (.int 12)) aNil)) (gtName 9) mYes (mOpt2 hIx (gVar 2) (mOpt Cell.toD (gCall F__law_pick (aCons (gVar 0) (aCons (mOpt2 hAdd (gC (.int 70)) (gVar 9)) (aCons (gC (.int 93)) aNil)))))) [9])) aNil))))
  (sSeq (sSet 4 (gCall F__law_pick (aCons (gVar 0) (aCons (gC (.int 83)) (aCons (gC (.int 3)) aNil)))))
  (sSeq (sSet 5 (gCall F__law_pick (aCons (gVar 0) (aCons (gC (.int 84)) (aCons (gC (.int 12)) aNil)))))
  (sSeq (sSet 6 (mMap Cell.fz (mOpt2 hAdd (gC (.int 1)) (mOpt Cell.toD (gCall F__law_pick (aCons (gVar 0) (aCons (gC (.int 85)) (aCons (gC (.int 12)) aNil))))))))
  (sSeq (sSet 7 (mMap Cell.fz (mOpt2 hIx (mOpt Cell.toD (mMap Cell.ow (mOpt okLen (aCons (gC (.int 1)) (aCons (gC (.int 2)) (aCons (gC (.int 4)) (aCons (gC (.int 5)) (aCons (gC (.int 7)) (aCons (gC (.int 8)) aNil))))))))) (mOpt Cell.toD (gCall F__law_pick (aCons (gVar 0) (aCons (gC (.int 86)) (aCons (gC (.int 6)) aNil))))))))
  (sSeq (sSet 8 (mMap Cell.ow (mOpt okLen aNil)))
  (sSeq (sFor (mOpt hRng1 (aCons (gVar 1) aNil)) (gtName 9) (sSeq (sSet 11 (mMap Cell.fz (mOpt2 hIx (gVar 2) (mOpt2 hMod (mOpt2 hAdd (mOpt Cell.toD (gCall F__law_pick (aCons (gVar 0) (aCons (gC (.int 87)) (aCons (gC (.int 93)) aNil))))) (mOpt2 hMul (gVar 9) (gVar 7))) (gC (.int 93))))))
  (sIf (mOpt2 hEqS (gVar 4) (gC (.int 0))) (sDrop (gAppend 8 (gSlS (gVar 3) (mPart none) (mPart (some (mOpt2 hAdd (gVar 9) (gC (.int 1)))))))) (sIf (mOpt2 hEqS (gVar 4) (gC (.int 1))) (sDrop (gAppend 8 (mOpt2 hAdd (mOpt2 hAdd (gSlS (gVar 3) (mPart none) (mPart (some (mOpt hMin2 (aCons (gVar 5) (aCons (mOpt2 hSub (gVar 6) (gC (.int 1))) aNil)))))) (gVar 11)) (gSlS (gVar 3) (mPart (some (mOpt2 hAdd (mOpt hMin2 (aCons (gVar 5) (aCons (mOpt2 hSub (gVar 6) (gC (.int 1))) aNil))) (gC (.int 1))))) (mPart (some (gVar 6))))))) (sDrop (gAppend 8 (mOpt2 hAdd (gSlS (gVar 3) (mPart none) (mPart (some (gVar 9)))) (gC (.str "0")))))))))
  (sSeq (sSet 10 (gCall F__law_pick (aCons (gVar 0) (aCons (gC (.int 88)) (aCons (gVar 1) aNil)))))
  (sRet (mMap Cell.ow (mOpt2 hCat (mOpt Cell.toD (gSlL (gVar 8) (mPart (some (gVar 10))) (mPart none))) (mOpt Cell.toD (gSlL (gVar 8) (mPart none) (mPart (some (gVar 10)))))))))))))))))
theorem d__law_near_names {P : Program} {w : World} {K : Fg} {mg : Str → Option Value} {base : Heap} {f : Addr} {fd : FuncData} (F : FunA K "_law_near_names" "_law_near_names" s__law_near_names f fd) (B : Bn mg) (c__law_all_signs : DCal P w K mg base CX0 1 "_law_all_signs" F__law_all_signs) (c__law_pick : DCal P w K mg base CX0 1 "_law_pick" F__law_pick) : FnOk P w K mg base CX0 2 f fd ["cell", "many"] (pureSp ⟨K, P, w, mg⟩ F__law_near_names) :=
  fn_p0 (k := 1) F sc__law_near_names rfl fun cdv A outer s H E hr =>
  (dss_cons (ds_set (i := 2) sc__law_near_names.nd rfl (by first | exact .inl rfl | exact .inr rfl) (de_f (df_slS (df_e (de_call0 c__law_all_signs hr (by decide) rfl)) (dp_some df_int) dp_none)))
  (dss_cons (ds_set (i := 3) sc__law_near_names.nd rfl (by first | exact .inl rfl | exact .inr rfl) (de_f (df_join df_str (da_cons (df_e (de_lc (EN := E) (own := [("k", 9)]) rfl sc__law_near_names.nd (di_range1 rfl B.b_range (da_cons df_int da_nil)) (blkOk_by (N := ["cell", "many", "signs", "base", "way", "at", "size", "step", "found", "k", "turn", "sign"]) (sc := defScope s__law_near_names) (own := [("k", 9)]) (by decide +kernel)) (fun _ _ _ _ _ => (dg_name sc__law_near_names.nd (i := 9) rfl (by first | exact .inl rfl | exact .inr rfl))) (fun _ _ _ _ _ => dts_nil) (fun _ _ _ _ _ => (df_ix (df_var (pv 2)) (df_e (de_call c__law_pick hr (by decide) rfl (da_cons (df_var (pv 0)) (da_cons (df_add df_int (df_var (pv 9))) (da_cons df_int da_nil))))))))) da_nil))))
  (dss_cons (ds_set (i := 4) sc__law_near_names.nd rfl (by first | exact .inl rfl | exact .inr rfl) (de_call c__law_pick hr (by decide) rfl (da_cons (df_var (pv 0)) (da_cons df_int (da_cons df_int da_nil)))))
  (dss_cons (ds_set (i := 5) sc__law_near_names.nd rfl (by first | exact .inl rfl | exact .inr rfl) (de_call c__law_pick hr (by decide) rfl (da_cons (df_var (pv 0)) (da_cons df_int (da_cons df_int da_nil)))))
  (dss_cons (ds_set (i := 6) sc__law_near_names.nd rfl (by first | exact .inl rfl | exact .inr rfl) (de_f (df_add df_int (df_e (de_call c__law_pick hr (by decide) rfl (da_cons (df_var (pv 0)) (da_cons df_int (da_cons df_int da_nil))))))))
  (dss_cons (ds_set (i := 7) sc__law_near_names.nd rfl (by first | exact .inl rfl | exact .inr rfl) (de_f (df_ix (df_e (de_lst (da_cons df_int (da_cons df_int (da_cons df_int (da_cons df_int (da_cons df_int (da_cons df_int da_nil)))))))) (df_e (de_call c__law_pick hr (by decide) rfl (da_cons (df_var (pv 0)) (da_cons df_int (da_cons df_int da_nil))))))))
  (dss_cons (ds_set (i := 8) sc__law_near_names.nd rfl (by first | exact .inl rfl | exact .inr rfl) (de_lst da_nil))
  (dss_cons (ds_for PassesOwn.never rfl (di_range1 rfl B.b_range (da_cons (df_var (pv 1)) da_nil)) (dg_name sc__law_near_names.nd (i := 9) rfl (by first | exact .inl rfl | exact .inr rfl)) (dss_cons (ds_set (i := 11) sc__law_near_names.nd rfl (by first | exact .inl rfl | exact .inr rfl) (de_f (df_ix (df_var (pv 2)) (df_mod (df_add (df_e (de_call c__law_pick hr (by decide) rfl (da_cons (df_var (pv 0)) (da_cons df_int (da_cons df_int da_nil))))) (df_mul (df_var (pv 9)) (df_var (pv 7)))) df_int))))
  (dss_one (ds_if (dt_cmpD cd_eqS (df_var (pv 4)) df_int) (dss_one (ds_expr (df_append (pv 8) (df_slS (df_var (pv 3)) dp_none (dp_some (df_add (df_var (pv 9)) df_int)))))) (dss_one (ds_if (dt_cmpD cd_eqS (df_var (pv 4)) df_int) (dss_one (ds_expr (df_append (pv 8) (df_add (df_add (df_slS (df_var (pv 3)) dp_none (dp_some (df_min2 rfl rfl B.b_min (da_cons (df_var (pv 5)) (da_cons (df_sub (df_var (pv 6)) df_int) da_nil))))) (df_var (pv 11))) (df_slS (df_var (pv 3)) (dp_some (df_add (df_min2 rfl rfl B.b_min (da_cons (df_var (pv 5)) (da_cons (df_sub (df_var (pv 6)) df_int) da_nil))) df_int)) (dp_some (df_var (pv 6)))))))) (dss_one (ds_expr (df_append (pv 8) (df_add (df_slS (df_var (pv 3)) dp_none (dp_some (df_var (pv 9)))) df_str))))))))))
  (dss_cons (ds_set (i := 10) sc__law_near_names.nd rfl (by first | exact .inl rfl | exact .inr rfl) (de_call c__law_pick hr (by decide) rfl (da_cons (df_var (pv 0)) (da_cons df_int (da_cons (df_var (pv 1)) da_nil)))))
  (dss_one (ds_ret (de_cat (df_e (de_slL (df_var (pv 8)) (dp_some (df_var (pv 10))) dp_none)) (df_e (de_slL (df_var (pv 8)) dp_none (dp_some (df_var (pv 10)))))))))))))))))
noncomputable abbrev s__law_choice_spec : Stmt := topS 70
theorem sc__law_choice_spec : FnScope ["cell", "other", "small", "names", "fill", "width", "side"] ["cell", "other", "small"] (defScope s__law_choice_spec) := ⟨rfl, rfl, rfl, by decide +kernel, rfl, by decide +kernel, by decide +kernel⟩
noncomputable def F__law_choice_spec : List D → Res Cell := runs 3 4 (sSeq (sSet 3 (gCall F__law_near_names (aCons (gVar 0) (aCons (mOpt2 hAdd (gC (.int 1)) (mOpt Cell.toD (gCall F__law_pick (aCons (gVar 1) (aCons (gC (.int 64)) (aCons (mOpt2 hIx (mOpt Cell.toD (mMap Cell.ow (mOpt okLen (aCons (gC (.int 12)) (aCons (gC (.int 4)) aNil))))) (gVar 2)) aNil)))))) aNil))))
  (sSeq (sSet 4 (mMap Cell.fz (mOpt2 hIx (mOpt Cell.toD (mMap Cell.ow (mOpt okLen (aCons (mOpt2 hIx (gIxN 3 (gC (.int 0))) (mOpt hNeg (gC (.int 1)))) (aCons (mOpt Cell.toD (gCall F__law_drawn_sign (aCons (gVar 1) (aCons (gC (.int 65)) aNil)))) (aCons (gC (.str "0")) aNil)))))) (mOpt Cell.toD (gCall F__law_pick (aCons (gVar 1) (aCons (gC (.int 68)) (aCons (gC (.int 3)) aNil))))))))
  (sSeq (sSet 5 (mMap Cell.fz (mOpt2 hIx (mOpt Cell.toD (mMap Cell.ow (mOpt okLen (aCons (gC (.int 0)) (aCons (mOpt2 hAdd (gC (.int 1)) (mOpt Cell.toD (gCall F__law_pick (aCons (gVar 1) (aCons (gC (.int 69)) (aCons (mOpt2 hIx (mOpt Cell.toD (mMap Cell.ow (mOpt okLen (aCons (gC (.int 40)) (aCons (gC (.int 5)) aNil))))) (gVar 2)) aNil)))))) (aCons (mOpt2 hAdd (mOpt hLen (aCons (gIxN 3 (mOpt hNeg (gC (.int 1)))) aNil)) (gC (.int 1))) aNil)))))) (mOpt Cell.toD (gCall F__law_pick (aCons (gVar 1) (aCons (gC (.int 70)) (aCons (gC (.int 3)) aNil))))))))
  (sSeq (sSet 6 (mMap Cell.fz (mOpt2 hIx (mOpt Cell.toD (mMap Cell.ow (mOpt okLen (aCons (gC (.str "left")) (aCons (gC (.str "right")) (aCons (gC (.str "middle")) aNil)))))) (mOpt Cell.toD (gCall F__law_pick (aCons (gVar 1) (aCons (gC (.int 71)) (aCons (gC (.int 3)) aNil))))))))
  (sRet (mMap Cell.fz (mMap D.tup (mOpt okLen (aCons (gC (.str "choice")) (aCons (gVar 3) (aCons (gVar 5) (aCons (gVar 4) (aCons (gVar 6) (aCons (mMap D.bl (mOpt2 hEqS (mOpt Cell.toD (gCall F__law_pick (aCons (gVar 1) (aCons (gC (.int 72)) (aCons (gC (.int 3)) aNil))))) (gC (.int 0)))) aNil))))))))))))))
theorem d__law_choice_spec {P : Program} {w : World} {K : Fg} {mg : Str → Option Value} {base : Heap} {f : Addr} {fd : FuncData} (F : FunA K "_law_choice_spec" "_law_choice_spec" s__law_choice_spec f fd) (B : Bn mg) (c__law_near_names : DCal P w K mg base CX0 2 "_law_near_names" F__law_near_names) (c__law_pick : DCal P w K mg base CX0 1 "_law_pick" F__law_pick) (c__law_drawn_sign : DCal P w K mg base CX0 2 "_law_drawn_sign" F__law_drawn_sign) : FnOk P w K mg base CX0 3 f fd ["cell", "other", "small"] (pureSp ⟨K, P, w, mg⟩ F__law_choice_spec) :=
  fn_p0 (k := 2) F sc__law_choice_spec rfl fun cdv A outer s H E hr =>
  (dss_cons (ds_set (i := 3) sc__law_choice_spec.nd rfl (by first | exact .inl rfl | exact .inr rfl) (de_call c__law_near_names hr (by decide) rfl (da_cons (df_var (pv 0)) (da_cons (df_add df_int (df_e (de_call c__law_pick hr (by decide) rfl (da_cons (df_var (pv 1)) (da_cons df_int (da_cons (df_ix (df_e (de_lst (da_cons df_int (da_cons df_int da_nil)))) (df_var (pv 2))) da_nil)))))) da_nil))))
  (dss_cons (ds_set (i := 4) sc__law_choice_spec.nd rfl (by first | exact .inl rfl | exact .inr rfl) (de_f (df_ix (df_e (de_lst (da_cons (df_ix (df_ixN (pv 3) df_int) (df_neg df_int)) (da_cons (df_e (de_call c__law_drawn_sign hr (by decide) rfl (da_cons (df_var (pv 1)) (da_cons df_int da_nil)))) (da_cons df_str da_nil))))) (df_e (de_call c__law_pick hr (by decide) rfl (da_cons (df_var (pv 1)) (da_cons df_int (da_cons df_int da_nil))))))))
  (dss_cons (ds_set (i := 5) sc__law_choice_spec.nd rfl (by first | exact .inl rfl | exact .inr rfl) (de_f (df_ix (df_e (de_lst (da_cons df_int (da_cons (df_add df_int (df_e (de_call c__law_pick hr (by decide) rfl (da_cons (df_var (pv 1)) (da_cons df_int (da_cons (df_ix (df_e (de_lst (da_cons df_int (da_cons df_int da_nil)))) (df_var (pv 2))) da_nil)))))) (da_cons (df_add (df_len rfl B.b_len (da_cons (df_ixN (pv 3) (df_neg df_int)) da_nil)) df_int) da_nil))))) (df_e (de_call c__law_pick hr (by decide) rfl (da_cons (df_var (pv 1)) (da_cons df_int (da_cons df_int da_nil))))))))
  (dss_cons (ds_set (i := 6) sc__law_choice_spec.nd rfl (by first | exact .inl rfl | exact .inr rfl) (de_f (df_ix (df_e (de_lst (da_cons df_str (da_cons df_str (da_cons df_str da_nil))))) (df_e (de_call c__law_pick hr (by decide) rfl (da_cons (df_var (pv 1)) (da_cons df_int (da_cons df_int da_nil))))))))
  (dss_one (ds_ret (de_f (df_tup (da_cons df_str (da_cons (df_var (pv 3)) (da_cons (df_var (pv 5)) (da_cons (df_var (pv 4)) (da_cons (df_var (pv 6)) (da_cons (df_cmpD cd_eqS (df_e (de_call c__law_pick hr (by decide) rfl (da_cons (df_var (pv 1)) (da_cons df_int (da_cons df_int da_nil))))) df_int) da_nil))))))))))))))
noncomputable abbrev s__law_shortest : Stmt := topS 71
theorem sc__law_shortest : FnScope ["spec", "name"] ["spec"] (defScope s__law_shortest) := ⟨rfl, rfl, rfl, by decide +kernel, rfl, by decide +kernel, by decide +kernel⟩
noncomputable def F__law_shortest : List D → Res Cell := runs 1 1 (sSeq (sIf (mOpt2 hEqS (mOpt2 hIx (gVar 0) (gC (.int 0))) (gC (.str "number"))) (sRet (mMap Cell.fz (mOpt2 hAdd (mOpt2 hAdd (gC (.int 1)) (mOpt2 hMul (mOpt2 hAdd (mOpt2 hIx (gVar 0) (gC (.int 2))) (gC (.int 1))) (mOpt hInt (aCons (mMap D.bl (mOpt2 hGt (mOpt2 hIx (gVar 0) (gC (.int 2))) (gC (.int 0)))) aNil)))) (mOpt hInt (aCons (mMap D.bl (mOpt2 hInQ (mOpt2 hIx (gVar 0) (gC (.int 4))) (mMap D.tup (mOpt okLen (aCons (gC (.str "plus")) (aCons (gC (.str "blank")) aNil)))))) aNil))))) sNil)
  (sSeq (sIf (mOpt2 hEqS (mOpt2 hIx (gVar 0) (gC (.int 0))) (gC (.str "word"))) (sRet (mMap Cell.fz (mOpt2 hIx (gVar 0) (gC (.int 2))))) sNil)
  (sRet (mMap Cell.fz (mOpt hMin (aCons (mOpt Cell.toD (gComp (mOpt hLst (mOpt2 hIx (gVar 0) (gC (.int 1)))) (gtName 1) mYes (mOpt hLen (aCons (gVar 1) aNil)) [1])) aNil))))))
theorem d__law_shortest {P : Program} {w : World} {K : Fg} {mg : Str → Option Value} {base : Heap} {f : Addr} {fd : FuncData} (F : FunA K "_law_shortest" "_law_shortest" s__law_shortest f fd) (B : Bn mg) : FnOk P w K mg base CX0 1 f fd ["spec"] (pureSp ⟨K, P, w, mg⟩ F__law_shortest) :=
  fn_p0 (k := 0) F sc__law_shortest rfl fun cdv A outer s H E hr =>
  (dss_cons (ds_if (dt_cmpD cd_eqS (df_ix (df_var (pv 0)) df_int) df_str) (dss_one (ds_ret (de_f (df_add (df_add df_int (df_mul (df_add (df_ix (df_var (pv 0)) df_int) df_int) (df_callInt rfl B.b_int (da_cons (df_cmpD cd_gt (df_ix (df_var (pv 0)) df_int) df_int) da_nil)))) (df_callInt rfl B.b_int (da_cons (df_cmpD cd_inQ (df_ix (df_var (pv 0)) df_int) (df_tup (da_cons df_str (da_cons df_str da_nil)))) da_nil)))))) dss_nil)
  (dss_cons (ds_if (dt_cmpD cd_eqS (df_ix (df_var (pv 0)) df_int) df_str) (dss_one (ds_ret (de_f (df_ix (df_var (pv 0)) df_int)))) dss_nil)
  (dss_one (ds_ret (de_f (df_min rfl rfl B.b_min (da_cons (df_e (de_lc (EN := E) (own := [("name", 1)]) rfl sc__law_shortest.nd (di_list (df_ix (df_var (pv 0)) df_int)) (blkOk_by (N := ["spec", "name"]) (sc := defScope s__law_shortest) (own := [("name", 1)]) (by decide +kernel)) (fun _ _ _ _ _ => (dg_name sc__law_shortest.nd (i := 1) rfl (by first | exact .inl rfl | exact .inr rfl))) (fun _ _ _ _ _ => dts_nil) (fun _ _ _ _ _ => (df_len rfl B.b_len (da_cons (df_var (pv 1)) da_nil))))) da_nil)))))))
noncomputable abbrev s__law_any_spec : Stmt := topS 73
theorem sc__law_any_spec : FnScope ["cell", "other", "sort", "spec", "signs"] ["cell", "other", "sort"] (defScope s__law_any_spec) := ⟨rfl, rfl, rfl, by decide +kernel, rfl, by decide +kernel, by decide +kernel⟩
noncomputable def F__law_any_spec : List D → Res Cell := runs 3 2 (sSeq (sSet 3 (gCall F__law_number_spec (aCons (gVar 0) (aCons (gVar 1) (aCons (gC (.int 0)) aNil)))))
  (sSeq (sIf (mOpt2 hEqS (gVar 2) (gC (.int 1))) (sSeq (sSet 3 (gCall F__law_word_spec (aCons (gVar 0) (aCons (gVar 1) (aCons (gC (.int 0)) aNil)))))
  (sSeq (sSet 4 (mMap Cell.fz (mOpt2 hIx (gVar 3) (gC (.int 1)))))
  (sSeq (sIf (mOr (mOpt2 hEqS (mOpt Cell.toD (gCall F__law_pick (aCons (gVar 1) (aCons (gC (.int 91)) (aCons (gC (.int 3)) aNil))))) (gC (.int 1))) (mOpt2 hEqS (gVar 4) (gC (.str " ")))) (sSet 4 (mMap Cell.fz (mOpt2 hAdd (mOpt2 hStrMul (gC (.str " ")) (mOpt Cell.toD (gCall F__law_pick (aCons (gVar 1) (aCons (gC (.int 92)) (aCons (gC (.int 2)) aNil)))))) (mOpt2 hIx (mOpt2 hIx (mOpt Cell.toD (gCall F__law_sets aNil)) (mOpt Cell.toD (gCall F__law_pick (aCons (gVar 1) (aCons (gC (.int 93)) (aCons (gC (.int 4)) aNil)))))) (gC (.int 1)))))) sNil)
  (sSet 3 (mMap Cell.fz (mOpt2 hCatT (mMap D.tup (mOpt okLen (aCons (gC (.str "word")) (aCons (gVar 4) aNil)))) (gSlT (gVar 3) (mPart (some (gC (.int 2)))) (mPart none)))))))) sNil)
  (sSeq (sIf (mOpt2 hEqS (gVar 2) (gC (.int 2))) (sSet 3 (gCall F__law_choice_spec (aCons (gVar 0) (aCons (gVar 1) (aCons (gC (.int 0)) aNil))))) sNil)
  (sRet (mMap Cell.fz (mOpt2 hCatT (gSlT (gVar 3) (mPart none) (mPart (some (mOpt hNeg (gC (.int 1)))))) (mMap D.tup (mOpt okLen (aCons (vAnd (mOpt2 hIx (gVar 3) (mOpt hNeg (gC (.int 1)))) (mMap D.bl (mOpt2 hLe (mOpt Cell.toD (gCall F__law_shortest (aCons (gVar 3) aNil))) (mOpt2 hIx (gVar 3) (mOpt hNeg (gC (.int 4))))))) aNil)))))))))
theorem d__law_any_spec {P : Program} {w : World} {K : Fg} {mg : Str → Option Value} {base : Heap} {f : Addr} {fd : FuncData} (F : FunA K "_law_any_spec" "_law_any_spec" s__law_any_spec f fd) (B : Bn mg) (c__law_number_spec : DCal P w K mg base CX0 3 "_law_number_spec" F__law_number_spec) (c__law_word_spec : DCal P w K mg base CX0 3 "_law_word_spec" F__law_word_spec) (c__law_pick : DCal P w K mg base CX0 1 "_law_pick" F__law_pick) (c__law_sets : DCal P w K mg base CX0 2 "_law_sets" F__law_sets) (c__law_choice_spec : DCal P w K mg base CX0 3 "_law_choice_spec" F__law_choice_spec) (c__law_shortest : DCal P w K mg base CX0 1 "_law_shortest" F__law_shortest) : FnOk P w K mg base CX0 4 f fd ["cell", "other", "sort"] (pureSp ⟨K, P, w, mg⟩ F__law_any_spec) :=
  fn_p0 (k := 3) F sc__law_any_spec rfl fun cdv A outer s H E hr =>
  (dss_cons (ds_set (i := 3) sc__law_any_spec.nd rfl (by first | exact .inl rfl | exact .inr rfl) (de_call c__law_number_spec hr (by decide) rfl (da_cons (df_var (pv 0)) (da_cons (df_var (pv 1)) (da_cons df_int da_nil)))))
  (dss_cons (ds_if (dt_cmpD cd_eqS (df_var (pv 2)) df_int) (dss_cons (ds_set (i := 3) sc__law_any_spec.nd rfl (by first | exact .inl rfl | exact .inr rfl) (de_call c__law_word_spec hr (by decide) rfl (da_cons (df_var (pv 0)) (da_cons (df_var (pv 1)) (da_cons df_int da_nil)))))
  (dss_cons (ds_set (i := 4) sc__law_any_spec.nd rfl (by first | exact .inl rfl | exact .inr rfl) (de_f (df_ix (df_var (pv 3)) df_int)))
  (dss_cons (ds_if (dt_w (dw_or (dt_cmpD cd_eqS (df_e (de_call c__law_pick hr (by decide) rfl (da_cons (df_var (pv 1)) (da_cons df_int (da_cons df_int da_nil))))) df_int) (dw_or1 (dt_cmpD cd_eqS (df_var (pv 4)) df_str)))) (dss_one (ds_set (i := 4) sc__law_any_spec.nd rfl (by first | exact .inl rfl | exact .inr rfl) (de_f (df_add (df_strMul df_str (df_e (de_call c__law_pick hr (by decide) rfl (da_cons (df_var (pv 1)) (da_cons df_int (da_cons df_int da_nil)))))) (df_ix (df_ix (df_e (de_call0 c__law_sets hr (by decide) rfl)) (df_e (de_call c__law_pick hr (by decide) rfl (da_cons (df_var (pv 1)) (da_cons df_int (da_cons df_int da_nil)))))) df_int))))) dss_nil)
  (dss_one (ds_set (i := 3) sc__law_any_spec.nd rfl (by first | exact .inl rfl | exact .inr rfl) (de_f (df_catT (df_tup (da_cons df_str (da_cons (df_var (pv 4)) da_nil))) (df_slT (df_var (pv 3)) (dp_some df_int) dp_none)))))))) dss_nil)
  (dss_cons (ds_if (dt_cmpD cd_eqS (df_var (pv 2)) df_int) (dss_one (ds_set (i := 3) sc__law_any_spec.nd rfl (by first | exact .inl rfl | exact .inr rfl) (de_call c__law_choice_spec hr (by decide) rfl (da_cons (df_var (pv 0)) (da_cons (df_var (pv 1)) (da_cons df_int da_nil)))))) dss_nil)
  (dss_one (ds_ret (de_f (df_catT (df_slT (df_var (pv 3)) dp_none (dp_some (df_neg df_int))) (df_tup (da_cons (df_and (df_ix (df_var (pv 3)) (df_neg df_int)) (df_one (df_cmpD cd_le (df_e (de_call c__law_shortest hr (by decide) rfl (da_cons (df_var (pv 3)) da_nil))) (df_ix (df_var (pv 3)) (df_neg df_int))))) da_nil)))))))))
noncomputable abbrev s__law_signs_word : Stmt := topS 75
theorem sc__law_signs_word : FnScope ["signs", "bits", "rest", "name", "some"] ["signs", "bits"] (defScope s__law_signs_word) := ⟨rfl, rfl, rfl, by decide +kernel, rfl, by decide +kernel, by decide +kernel⟩
noncomputable def F__law_signs_word : List D → Res Cell := runs 2 3 (sSeq (sSet 2 (mMap Cell.fz (mOpt (hRepl " " "") (gVar 0))))
  (sSeq (sFor (mOpt hLst (mOpt Cell.toD (gCall F__law_sets aNil))) (gtTup 2 (gtCons (gtName 3) (gtCons (gtName 4) gtNil))) (sIf (mAnd (mOpt2 hEqS (gVar 4) (gVar 2)) (mOpt2 hEqS (mOpt2 hMod (gVar 1) (gC (.int 2))) (gC (.int 0)))) (sRet (gTake 3)) sNil))
  (sRet (mMap Cell.fz (mOpt2 hAdd (gC (.str "=")) (gVar 2))))))
theorem d__law_signs_word {P : Program} {w : World} {K : Fg} {mg : Str → Option Value} {base : Heap} {f : Addr} {fd : FuncData} (F : FunA K "_law_signs_word" "_law_signs_word" s__law_signs_word f fd) (B : Bn mg) (c__law_sets : DCal P w K mg base CX0 2 "_law_sets" F__law_sets) : FnT P w K mg base 3 f fd ["signs", "bits"] (pureSp ⟨K, P, w, mg⟩ F__law_signs_word) :=
  fn_ofT (k := 2) F sc__law_signs_word (fun vs H Q E h => pure_body rfl h) fun cdv A outer s H E hr =>
  (dsst_cons (dst_setRepl (i := 2) sc__law_signs_word.nd rfl (.inl rfl) (df_var (pv 0)))
  (dss_cons (ds_for (passes_of rfl) rfl (di_list (df_e (de_call0 c__law_sets hr (by decide) rfl))) (dg_tup rfl (dgs_cons (dg_name sc__law_signs_word.nd (i := 3) rfl (by first | exact .inl rfl | exact .inr rfl)) (dgs_cons (dg_name sc__law_signs_word.nd (i := 4) rfl (by first | exact .inl rfl | exact .inr rfl)) dgs_nil))) (dss_one (ds_if (dt_w (dw_and (dt_cmpD cd_eqS (df_var (pv 4)) (df_var (pv 2))) (dw_and1 (dt_cmpD cd_eqS (df_mod (df_var (pv 1)) df_int) df_int)))) (dss_one (ds_ret (de_take (pv 3)))) dss_nil)))
  (dss_one (ds_ret (de_f (df_add df_str (df_var (pv 2))))))))
noncomputable abbrev s__law_sign_word : Stmt := topS 74
theorem sc__law_sign_word : FnScope ["sign"] ["sign"] (defScope s__law_sign_word) := ⟨rfl, rfl, rfl, by decide +kernel, rfl, by decide +kernel, by decide +kernel⟩
noncomputable def F__law_sign_word : List D → Res Cell := runs 1 0 (sSeq (sIf (mOpt2 hEqS (gVar 0) (gC (.str " "))) (sRet (mMap Cell.fz (gC (.str "blank")))) sNil)
  (sRet (gTake 0)))
theorem d__law_sign_word {P : Program} {w : World} {K : Fg} {mg : Str → Option Value} {base : Heap} {f : Addr} {fd : FuncData} (F : FunA K "_law_sign_word" "_law_sign_word" s__law_sign_word f fd) (B : Bn mg) : FnOk P w K mg base CX0 1 f fd ["sign"] (pureSp ⟨K, P, w, mg⟩ F__law_sign_word) :=
  fn_p0 (k := 0) F sc__law_sign_word rfl fun cdv A outer s H E hr =>
  (dss_cons (ds_if (dt_cmpD cd_eqS (df_var (pv 0)) df_str) (dss_one (ds_ret (de_f df_str))) dss_nil)
  (dss_one (ds_ret (de_take (pv 0)))))
noncomputable abbrev s__law_first_rows : Stmt := topS 76
theorem sc__law_first_rows : FnScope ["spec", "bits", "figures", "places", "base", "sign", "size", "mark", "point", "way", "rows", "name"] ["spec", "bits"] (defScope s__law_first_rows) := ⟨rfl, rfl, rfl, by decide +kernel, rfl, by decide +kernel, by decide +kernel⟩
noncomputable def F__law_first_rows : List D → Res Cell := runs 2 10 (sSeq (sIf (mOpt2 hEqS (mOpt2 hIx (gVar 0) (gC (.int 0))) (gC (.str "word"))) (sSeq (sSet 10 (mMap Cell.ow (mOpt okLen (aCons (mMap D.tup (mOpt okLen (aCons (gC (.str "word")) (aCons (gC (.str "kind")) (aCons (gC (.int 0)) (aCons (gC (.int 0)) aNil)))))) (aCons (mMap D.tup (mOpt okLen (aCons (mOpt Cell.toD (gCall F__law_signs_word (aCons (mOpt2 hIx (gVar 0) (gC (.int 1))) (aCons (mOpt2 hFdiv (gVar 1) (gC (.int 64))) aNil)))) (aCons (gC (.str "signs")) (aCons (gC (.int 0)) (aCons (gC (.int 0)) aNil)))))) aNil)))))
  (sSeq (sSet 10 (mMap Cell.ow (mOpt2 hCat (gVar 10) (mOpt Cell.toD (mMap Cell.ow (mOpt okLen (aCons (mMap D.tup (mOpt okLen (aCons (mOpt hStrI (aCons (mOpt2 hIx (gVar 0) (gC (.int 2))) aNil)) (aCons (gC (.str "number")) (aCons (gC (.int 0)) (aCons (gC (.int 24)) aNil)))))) (aCons (mMap D.tup (mOpt okLen (aCons (mOpt hStrI (aCons (mOpt2 hIx (gVar 0) (gC (.int 3))) aNil)) (aCons (gC (.str "number")) (aCons (mOpt2 hIx (gVar 0) (gC (.int 2))) (aCons (gC (.int 24)) aNil)))))) aNil))))))))
  (sRet (mMap Cell.ow (mOpt2 hCat (gVar 10) (mOpt Cell.toD (gSlL (mOpt Cell.toD (mMap Cell.ow (mOpt okLen (aCons (mMap D.tup (mOpt okLen (aCons (gC (.str "blank")) (aCons (gC (.str "key")) (aCons (gC (.int 0)) (aCons (gC (.int 0)) aNil)))))) aNil)))) (mPart none) (mPart (some (mOpt hInt (aCons (mMap D.bl (mOpt2 hInQ (gC (.str " ")) (mOpt2 hIx (gVar 0) (gC (.int 1))))) aNil))))))))))) sNil)
  (sSeq (sIf (mOpt2 hEqS (mOpt2 hIx (gVar 0) (gC (.int 0))) (gC (.str "choice"))) (sSeq (sSet 10 (mMap Cell.ow (mOpt okLen (aCons (mMap D.tup (mOpt okLen (aCons (gC (.str "choice")) (aCons (gC (.str "kind")) (aCons (gC (.int 0)) (aCons (gC (.int 0)) aNil)))))) (aCons (mMap D.tup (mOpt okLen (aCons (mOpt hStrI (aCons (mOpt hLen (aCons (mOpt2 hIx (gVar 0) (gC (.int 1))) aNil)) aNil)) (aCons (gC (.str "number")) (aCons (gC (.int 1)) (aCons (gC (.int 12)) aNil)))))) aNil)))))
  (sRet (mMap Cell.ow (mOpt2 hCat (gVar 10) (mOpt Cell.toD (gComp (mOpt hLst (mOpt2 hIx (gVar 0) (gC (.int 1)))) (gtName 11) mYes (mMap D.tup (mOpt okLen (aCons (gVar 11) (aCons (gC (.str "name")) (aCons (gC (.int 0)) (aCons (gC (.int 0)) aNil)))))) [11])))))) sNil)
  (sSeq (sAsg (gSlT (gVar 0) (mPart (some (gC (.int 1)))) (mPart (some (gC (.int 9))))) (gtTup 8 (gtCons (gtName 2) (gtCons (gtName 3) (gtCons (gtName 4) (gtCons (gtName 5) (gtCons (gtName 6) (gtCons (gtName 7) (gtCons (gtName 8) (gtCons (gtName 9) gtNil))))))))))
  (sSeq (sSet 10 (mMap Cell.ow (mOpt okLen (aCons (mMap D.tup (mOpt okLen (aCons (gC (.str "number")) (aCons (gC (.str "kind")) (aCons (gC (.int 0)) (aCons (gC (.int 0)) aNil)))))) (aCons (mMap D.tup (mOpt okLen (aCons (mOpt hStrI (aCons (gVar 2) aNil)) (aCons (gC (.str "number")) (aCons (gC (.int 1)) (aCons (gC (.int 12)) aNil)))))) (aCons (mMap D.tup (mOpt okLen (aCons (mOpt hStrI (aCons (gVar 3) aNil)) (aCons (gC (.str "number")) (aCons (gC (.int 0)) (aCons (gC (.int 6)) aNil)))))) aNil))))))
  (sSeq (sIf (mOr (mOpt2 hNeS (gVar 4) (gC (.int 10))) (mOpt2 hEqS (mOpt2 hMod (gVar 1) (gC (.int 2))) (gC (.int 1)))) (sSet 10 (mMap Cell.ow (mOpt2 hCat (gVar 10) (mOpt Cell.toD (mMap Cell.ow (mOpt okLen (aCons (mMap D.tup (mOpt okLen (aCons (gC (.str "base")) (aCons (gC (.str "key")) (aCons (gC (.int 0)) (aCons (gC (.int 0)) aNil)))))) (aCons (mMap D.tup (mOpt okLen (aCons (mOpt hStrI (aCons (gVar 4) aNil)) (aCons (gC (.str "number")) (aCons (gC (.int 2)) (aCons (gC (.int 16)) aNil)))))) aNil)))))))) sNil)
  (sSeq (sIf (mOr (mOpt2 hNeS (gVar 5) (gC (.str "minus"))) (mOpt2 hEqS (mOpt2 hMod (mOpt2 hFdiv (gVar 1) (gC (.int 2))) (gC (.int 2))) (gC (.int 1)))) (sSet 10 (mMap Cell.ow (mOpt2 hCat (gVar 10) (mOpt Cell.toD (mMap Cell.ow (mOpt okLen (aCons (mMap D.tup (mOpt okLen (aCons (gC (.str "sign")) (aCons (gC (.str "key")) (aCons (gC (.int 0)) (aCons (gC (.int 0)) aNil)))))) (aCons (mMap D.tup (mOpt okLen (aCons (gVar 5) (aCons (gC (.str "style")) (aCons (gC (.int 0)) (aCons (gC (.int 0)) aNil)))))) aNil)))))))) sNil)
  (sSeq (sIf (mOpt2 hGt (gVar 6) (gC (.int 0))) (sSeq (sSet 10 (mMap Cell.ow (mOpt2 hCat (gVar 10) (mOpt Cell.toD (mMap Cell.ow (mOpt okLen (aCons (mMap D.tup (mOpt okLen (aCons (gC (.str "groups")) (aCons (gC (.str "key")) (aCons (gC (.int 0)) (aCons (gC (.int 0)) aNil)))))) (aCons (mMap D.tup (mOpt okLen (aCons (mOpt hStrI (aCons (gVar 6) aNil)) (aCons (gC (.str "number")) (aCons (gC (.int 1)) (aCons (gC (.int 9)) aNil)))))) aNil))))))))
  (sDrop (gAppend 10 (mMap D.tup (mOpt okLen (aCons (mOpt Cell.toD (gCall F__law_sign_word (aCons (gVar 7) aNil))) (aCons (gC (.str "sign")) (aCons (gC (.int 0)) (aCons (gC (.int 0)) aNil))))))))) sNil)
  (sSeq (sIf (mOr (mOpt2 hNeS (gVar 8) (gC (.str "."))) (mOpt2 hEqS (mOpt2 hMod (mOpt2 hFdiv (gVar 1) (gC (.int 4))) (gC (.int 2))) (gC (.int 1)))) (sSet 10 (mMap Cell.ow (mOpt2 hCat (gVar 10) (mOpt Cell.toD (mMap Cell.ow (mOpt okLen (aCons (mMap D.tup (mOpt okLen (aCons (gC (.str "point")) (aCons (gC (.str "key")) (aCons (gC (.int 0)) (aCons (gC (.int 0)) aNil)))))) (aCons (mMap D.tup (mOpt okLen (aCons (mOpt Cell.toD (gCall F__law_sign_word (aCons (gVar 8) aNil))) (aCons (gC (.str "sign")) (aCons (gC (.int 0)) (aCons (gC (.int 0)) aNil)))))) aNil)))))))) sNil)
  (sSeq (sIf (mOr (mOpt2 hNeS (gVar 9) (gC (.str "near"))) (mOpt2 hEqS (mOpt2 hMod (mOpt2 hFdiv (gVar 1) (gC (.int 8))) (gC (.int 2))) (gC (.int 1)))) (sSet 10 (mMap Cell.ow (mOpt2 hCat (gVar 10) (mOpt Cell.toD (mMap Cell.ow (mOpt okLen (aCons (mMap D.tup (mOpt okLen (aCons (gC (.str "way")) (aCons (gC (.str "key")) (aCons (gC (.int 0)) (aCons (gC (.int 0)) aNil)))))) (aCons (mMap D.tup (mOpt okLen (aCons (gVar 9) (aCons (gC (.str "way")) (aCons (gC (.int 0)) (aCons (gC (.int 0)) aNil)))))) aNil)))))))) sNil)
  (sRet (gTake 10)))))))))))
theorem d__law_first_rows {P : Program} {w : World} {K : Fg} {mg : Str → Option Value} {base : Heap} {f : Addr} {fd : FuncData} (F : FunA K "_law_first_rows" "_law_first_rows" s__law_first_rows f fd) (B : Bn mg) (c__law_signs_word : DCalT P w K mg base 3 "_law_signs_word" F__law_signs_word) (c__law_sign_word : DCal P w K mg base CX0 1 "_law_sign_word" F__law_sign_word) : FnOk P w K mg base CX0 4 f fd ["spec", "bits"] (pureSp ⟨K, P, w, mg⟩ F__law_first_rows) :=
  fn_p0 (k := 3) F sc__law_first_rows rfl fun cdv A outer s H E hr =>
  (dss_cons (ds_if (dt_cmpD cd_eqS (df_ix (df_var (pv 0)) df_int) df_str) (dss_cons (ds_set (i := 10) sc__law_first_rows.nd rfl (by first | exact .inl rfl | exact .inr rfl) (de_lst (da_cons (df_tup (da_cons df_str (da_cons df_str (da_cons df_int (da_cons df_int da_nil))))) (da_cons (df_tup (da_cons (df_e (de_callT2 c__law_signs_word hr (by decide) rfl (df_ix (df_var (pv 0)) df_int) (df_var (pv 1)))) (da_cons df_str (da_cons df_int (da_cons df_int da_nil))))) da_nil))))
  (dss_cons (ds_set (i := 10) sc__law_first_rows.nd rfl (by first | exact .inl rfl | exact .inr rfl) (de_cat (df_var (pv 10)) (df_e (de_lst (da_cons (df_tup (da_cons (df_strI rfl B.b_str (da_cons (df_ix (df_var (pv 0)) df_int) da_nil)) (da_cons df_str (da_cons df_int (da_cons df_int da_nil))))) (da_cons (df_tup (da_cons (df_strI rfl B.b_str (da_cons (df_ix (df_var (pv 0)) df_int) da_nil)) (da_cons df_str (da_cons (df_ix (df_var (pv 0)) df_int) (da_cons df_int da_nil))))) da_nil))))))
  (dss_one (ds_ret (de_cat (df_var (pv 10)) (df_e (de_slL (df_e (de_lst (da_cons (df_tup (da_cons df_str (da_cons df_str (da_cons df_int (da_cons df_int da_nil))))) da_nil))) dp_none (dp_some (df_callInt rfl B.b_int (da_cons (df_cmpD cd_inQ df_str (df_ix (df_var (pv 0)) df_int)) da_nil)))))))))) dss_nil)
  (dss_cons (ds_if (dt_cmpD cd_eqS (df_ix (df_var (pv 0)) df_int) df_str) (dss_cons (ds_set (i := 10) sc__law_first_rows.nd rfl (by first | exact .inl rfl | exact .inr rfl) (de_lst (da_cons (df_tup (da_cons df_str (da_cons df_str (da_cons df_int (da_cons df_int da_nil))))) (da_cons (df_tup (da_cons (df_strI rfl B.b_str (da_cons (df_len rfl B.b_len (da_cons (df_ix (df_var (pv 0)) df_int) da_nil)) da_nil)) (da_cons df_str (da_cons df_int (da_cons df_int da_nil))))) da_nil))))
  (dss_one (ds_ret (de_cat (df_var (pv 10)) (df_e (de_lc (EN := E) (own := [("name", 11)]) rfl sc__law_first_rows.nd (di_list (df_ix (df_var (pv 0)) df_int)) (blkOk_by (N := ["spec", "bits", "figures", "places", "base", "sign", "size", "mark", "point", "way", "rows", "name"]) (sc := defScope s__law_first_rows) (own := [("name", 11)]) (by decide +kernel)) (fun _ _ _ _ _ => (dg_name sc__law_first_rows.nd (i := 11) rfl (by first | exact .inl rfl | exact .inr rfl))) (fun _ _ _ _ _ => dts_nil) (fun _ _ _ _ _ => (df_tup (da_cons (df_var (pv 11)) (da_cons df_str (da_cons df_int (da_cons df_int da_nil)))))))))))) dss_nil)
  (dss_cons (ds_asg (df_slT (df_var (pv 0)) (dp_some df_int) (dp_some df_int)) (dg_tup rfl (dgs_cons (dg_name sc__law_first_rows.nd (i := 2) rfl (by first | exact .inl rfl | exact .inr rfl)) (dgs_cons (dg_name sc__law_first_rows.nd (i := 3) rfl (by first | exact .inl rfl | exact .inr rfl)) (dgs_cons (dg_name sc__law_first_rows.nd (i := 4) rfl (by first | exact .inl rfl | exact .inr rfl)) (dgs_cons (dg_name sc__law_first_rows.nd (i := 5) rfl (by first | exact .inl rfl | exact .inr rfl)) (dgs_cons (dg_name sc__law_first_rows.nd (i := 6) rfl (by first | exact .inl rfl | exact .inr rfl)) (dgs_cons (dg_name sc__law_first_rows.nd (i := 7) rfl (by first | exact .inl rfl | exact .inr rfl)) (dgs_cons (dg_name sc__law_first_rows.nd (i := 8) rfl (by first | exact .inl rfl | exact .inr rfl)) (dgs_cons (dg_name sc__law_first_rows.nd (i := 9) rfl (by first | exact .inl rfl | exact .inr rfl)) dgs_nil))))))))) (hnx := (nx_tup (nx_cons nx_name (nx_cons nx_name (nx_cons nx_name (nx_cons nx_name (nx_cons nx_name (nx_cons nx_name (nx_cons nx_name (nx_cons nx_name nx_nil)))))))))))
  (dss_cons (ds_set (i := 10) sc__law_first_rows.nd rfl (by first | exact .inl rfl | exact .inr rfl) (de_lst (da_cons (df_tup (da_cons df_str (da_cons df_str (da_cons df_int (da_cons df_int da_nil))))) (da_cons (df_tup (da_cons (df_strI rfl B.b_str (da_cons (df_var (pv 2)) da_nil)) (da_cons df_str (da_cons df_int (da_cons df_int da_nil))))) (da_cons (df_tup (da_cons (df_strI rfl B.b_str (da_cons (df_var (pv 3)) da_nil)) (da_cons df_str (da_cons df_int (da_cons df_int da_nil))))) da_nil)))))
  (dss_cons (ds_if (dt_w (dw_or (dt_cmpD cd_neS (df_var (pv 4)) df_int) (dw_or1 (dt_cmpD cd_eqS (df_mod (df_var (pv 1)) df_int) df_int)))) (dss_one (ds_set (i := 10) sc__law_first_rows.nd rfl (by first | exact .inl rfl | exact .inr rfl) (de_cat (df_var (pv 10)) (df_e (de_lst (da_cons (df_tup (da_cons df_str (da_cons df_str (da_cons df_int (da_cons df_int da_nil))))) (da_cons (df_tup (da_cons (df_strI rfl B.b_str (da_cons (df_var (pv 4)) da_nil)) (da_cons df_str (da_cons df_int (da_cons df_int da_nil))))) da_nil))))))) dss_nil)
  (dss_cons (ds_if (dt_w (dw_or (dt_cmpD cd_neS (df_var (pv 5)) df_str) (dw_or1 (dt_cmpD cd_eqS (df_mod (df_fdiv (df_var (pv 1)) df_int) df_int) df_int)))) (dss_one (ds_set (i := 10) sc__law_first_rows.nd rfl (by first | exact .inl rfl | exact .inr rfl) (de_cat (df_var (pv 10)) (df_e (de_lst (da_cons (df_tup (da_cons df_str (da_cons df_str (da_cons df_int (da_cons df_int da_nil))))) (da_cons (df_tup (da_cons (df_var (pv 5)) (da_cons df_str (da_cons df_int (da_cons df_int da_nil))))) da_nil))))))) dss_nil)
  (dss_cons (ds_if (dt_cmpD cd_gt (df_var (pv 6)) df_int) (dss_cons (ds_set (i := 10) sc__law_first_rows.nd rfl (by first | exact .inl rfl | exact .inr rfl) (de_cat (df_var (pv 10)) (df_e (de_lst (da_cons (df_tup (da_cons df_str (da_cons df_str (da_cons df_int (da_cons df_int da_nil))))) (da_cons (df_tup (da_cons (df_strI rfl B.b_str (da_cons (df_var (pv 6)) da_nil)) (da_cons df_str (da_cons df_int (da_cons df_int da_nil))))) da_nil))))))
  (dss_one (ds_expr (df_append (pv 10) (df_tup (da_cons (df_e (de_call c__law_sign_word hr (by decide) rfl (da_cons (df_var (pv 7)) da_nil))) (da_cons df_str (da_cons df_int (da_cons df_int da_nil))))))))) dss_nil)
  (dss_cons (ds_if (dt_w (dw_or (dt_cmpD cd_neS (df_var (pv 8)) df_str) (dw_or1 (dt_cmpD cd_eqS (df_mod (df_fdiv (df_var (pv 1)) df_int) df_int) df_int)))) (dss_one (ds_set (i := 10) sc__law_first_rows.nd rfl (by first | exact .inl rfl | exact .inr rfl) (de_cat (df_var (pv 10)) (df_e (de_lst (da_cons (df_tup (da_cons df_str (da_cons df_str (da_cons df_int (da_cons df_int da_nil))))) (da_cons (df_tup (da_cons (df_e (de_call c__law_sign_word hr (by decide) rfl (da_cons (df_var (pv 8)) da_nil))) (da_cons df_str (da_cons df_int (da_cons df_int da_nil))))) da_nil))))))) dss_nil)
  (dss_cons (ds_if (dt_w (dw_or (dt_cmpD cd_neS (df_var (pv 9)) df_str) (dw_or1 (dt_cmpD cd_eqS (df_mod (df_fdiv (df_var (pv 1)) df_int) df_int) df_int)))) (dss_one (ds_set (i := 10) sc__law_first_rows.nd rfl (by first | exact .inl rfl | exact .inr rfl) (de_cat (df_var (pv 10)) (df_e (de_lst (da_cons (df_tup (da_cons df_str (da_cons df_str (da_cons df_int (da_cons df_int da_nil))))) (da_cons (df_tup (da_cons (df_var (pv 9)) (da_cons df_str (da_cons df_int (da_cons df_int da_nil))))) da_nil))))))) dss_nil)
  (dss_one (ds_ret (de_take (pv 10)))))))))))))
noncomputable abbrev s__law_word_rows : Stmt := topS 77
theorem sc__law_word_rows : FnScope ["spec", "bits", "rows", "width", "fill", "side", "strict", "kept"] ["spec", "bits"] (defScope s__law_word_rows) := ⟨rfl, rfl, rfl, by decide +kernel, rfl, by decide +kernel, by decide +kernel⟩
noncomputable def F__law_word_rows : List D → Res Cell := runs 2 6 (sSeq (sSet 2 (gCall F__law_first_rows (aCons (gVar 0) (aCons (gVar 1) aNil))))
  (sSeq (sAsg (gSlT (gVar 0) (mPart (some (mOpt hNeg (gC (.int 4))))) (mPart none)) (gtTup 4 (gtCons (gtName 3) (gtCons (gtName 4) (gtCons (gtName 5) (gtCons (gtName 6) gtNil))))))
  (sSeq (sSet 7 (mMap Cell.fz (mOpt2 hIx (mOpt Cell.toD (mMap Cell.ow (mOpt okLen (aCons (gC (.str "left")) (aCons (gC (.str "right")) aNil))))) (mOpt hInt (aCons (mMap D.bl (mOpt2 hEqS (mOpt2 hIx (gVar 0) (gC (.int 0))) (gC (.str "number")))) aNil)))))
  (sSeq (sIf (mOpt2 hGt (gVar 3) (gC (.int 0))) (sSet 2 (mMap Cell.ow (mOpt2 hCat (gVar 2) (mOpt Cell.toD (mMap Cell.ow (mOpt okLen (aCons (mMap D.tup (mOpt okLen (aCons (gC (.str "width")) (aCons (gC (.str "key")) (aCons (gC (.int 0)) (aCons (gC (.int 0)) aNil)))))) (aCons (mMap D.tup (mOpt okLen (aCons (mOpt hStrI (aCons (gVar 3) aNil)) (aCons (gC (.str "number")) (aCons (gC (.int 1)) (aCons (gC (.int 40)) aNil)))))) aNil)))))))) sNil)
  (sSeq (sIf (mOr (mOpt2 hNeS (gVar 4) (gC (.str " "))) (mOpt2 hEqS (mOpt2 hMod (mOpt2 hFdiv (gVar 1) (gC (.int 16))) (gC (.int 2))) (gC (.int 1)))) (sSet 2 (mMap Cell.ow (mOpt2 hCat (gVar 2) (mOpt Cell.toD (mMap Cell.ow (mOpt okLen (aCons (mMap D.tup (mOpt okLen (aCons (gC (.str "fill")) (aCons (gC (.str "key")) (aCons (gC (.int 0)) (aCons (gC (.int 0)) aNil)))))) (aCons (mMap D.tup (mOpt okLen (aCons (mOpt Cell.toD (gCall F__law_sign_word (aCons (gVar 4) aNil))) (aCons (gC (.str "sign")) (aCons (gC (.int 0)) (aCons (gC (.int 0)) aNil)))))) aNil)))))))) sNil)
  (sSeq (sIf (mOr (mOpt2 hNeS (gVar 5) (gVar 7)) (mOpt2 hEqS (mOpt2 hMod (mOpt2 hFdiv (gVar 1) (gC (.int 32))) (gC (.int 2))) (gC (.int 1)))) (sSet 2 (mMap Cell.ow (mOpt2 hCat (gVar 2) (mOpt Cell.toD (mMap Cell.ow (mOpt okLen (aCons (mMap D.tup (mOpt okLen (aCons (gC (.str "side")) (aCons (gC (.str "key")) (aCons (gC (.int 0)) (aCons (gC (.int 0)) aNil)))))) (aCons (mMap D.tup (mOpt okLen (aCons (gVar 5) (aCons (gC (.str "side")) (aCons (gC (.int 0)) (aCons (gC (.int 0)) aNil)))))) aNil)))))))) sNil)
  (sRet (mMap Cell.ow (mOpt2 hCat (gVar 2) (mOpt Cell.toD (gSlL (mOpt Cell.toD (mMap Cell.ow (mOpt okLen (aCons (mMap D.tup (mOpt okLen (aCons (gC (.str "strict")) (aCons (gC (.str "key")) (aCons (gC (.int 0)) (aCons (gC (.int 0)) aNil)))))) aNil)))) (mPart none) (mPart (some (mOpt hInt (aCons (gVar 6) aNil)))))))))))))))
theorem d__law_word_rows {P : Program} {w : World} {K : Fg} {mg : Str → Option Value} {base : Heap} {f : Addr} {fd : FuncData} (F : FunA K "_law_word_rows" "_law_word_rows" s__law_word_rows f fd) (B : Bn mg) (c__law_first_rows : DCal P w K mg base CX0 4 "_law_first_rows" F__law_first_rows) (c__law_sign_word : DCal P w K mg base CX0 1 "_law_sign_word" F__law_sign_word) : FnOk P w K mg base CX0 5 f fd ["spec", "bits"] (pureSp ⟨K, P, w, mg⟩ F__law_word_rows) :=
  fn_p0 (k := 4) F sc__law_word_rows rfl fun cdv A outer s H E hr =>
  (dss_cons (ds_set (i := 2) sc__law_word_rows.nd rfl (by first | exact .inl rfl | exact .inr rfl) (de_call c__law_first_rows hr (by decide) rfl (da_cons (df_var (pv 0)) (da_cons (df_var (pv 1)) da_nil))))
  (dss_cons (ds_asg (df_slT (df_var (pv 0)) (dp_some (df_neg df_int)) dp_none) (dg_tup rfl (dgs_cons (dg_name sc__law_word_rows.nd (i := 3) rfl (by first | exact .inl rfl | exact .inr rfl)) (dgs_cons (dg_name sc__law_word_rows.nd (i := 4) rfl (by first | exact .inl rfl | exact .inr rfl)) (dgs_cons (dg_name sc__law_word_rows.nd (i := 5) rfl (by first | exact .inl rfl | exact .inr rfl)) (dgs_cons (dg_name sc__law_word_rows.nd (i := 6) rfl (by first | exact .inl rfl | exact .inr rfl)) dgs_nil))))) (hnx := (nx_tup (nx_cons nx_name (nx_cons nx_name (nx_cons nx_name (nx_cons nx_name nx_nil)))))))
  (dss_cons (ds_set (i := 7) sc__law_word_rows.nd rfl (by first | exact .inl rfl | exact .inr rfl) (de_f (df_ix (df_e (de_lst (da_cons df_str (da_cons df_str da_nil)))) (df_callInt rfl B.b_int (da_cons (df_cmpD cd_eqS (df_ix (df_var (pv 0)) df_int) df_str) da_nil)))))
  (dss_cons (ds_if (dt_cmpD cd_gt (df_var (pv 3)) df_int) (dss_one (ds_set (i := 2) sc__law_word_rows.nd rfl (by first | exact .inl rfl | exact .inr rfl) (de_cat (df_var (pv 2)) (df_e (de_lst (da_cons (df_tup (da_cons df_str (da_cons df_str (da_cons df_int (da_cons df_int da_nil))))) (da_cons (df_tup (da_cons (df_strI rfl B.b_str (da_cons (df_var (pv 3)) da_nil)) (da_cons df_str (da_cons df_int (da_cons df_int da_nil))))) da_nil))))))) dss_nil)
  (dss_cons (ds_if (dt_w (dw_or (dt_cmpD cd_neS (df_var (pv 4)) df_str) (dw_or1 (dt_cmpD cd_eqS (df_mod (df_fdiv (df_var (pv 1)) df_int) df_int) df_int)))) (dss_one (ds_set (i := 2) sc__law_word_rows.nd rfl (by first | exact .inl rfl | exact .inr rfl) (de_cat (df_var (pv 2)) (df_e (de_lst (da_cons (df_tup (da_cons df_str (da_cons df_str (da_cons df_int (da_cons df_int da_nil))))) (da_cons (df_tup (da_cons (df_e (de_call c__law_sign_word hr (by decide) rfl (da_cons (df_var (pv 4)) da_nil))) (da_cons df_str (da_cons df_int (da_cons df_int da_nil))))) da_nil))))))) dss_nil)
  (dss_cons (ds_if (dt_w (dw_or (dt_cmpD cd_neS (df_var (pv 5)) (df_var (pv 7))) (dw_or1 (dt_cmpD cd_eqS (df_mod (df_fdiv (df_var (pv 1)) df_int) df_int) df_int)))) (dss_one (ds_set (i := 2) sc__law_word_rows.nd rfl (by first | exact .inl rfl | exact .inr rfl) (de_cat (df_var (pv 2)) (df_e (de_lst (da_cons (df_tup (da_cons df_str (da_cons df_str (da_cons df_int (da_cons df_int da_nil))))) (da_cons (df_tup (da_cons (df_var (pv 5)) (da_cons df_str (da_cons df_int (da_cons df_int da_nil))))) da_nil))))))) dss_nil)
  (dss_one (ds_ret (de_cat (df_var (pv 2)) (df_e (de_slL (df_e (de_lst (da_cons (df_tup (da_cons df_str (da_cons df_str (da_cons df_int (da_cons df_int da_nil))))) da_nil))) dp_none (dp_some (df_callInt rfl B.b_int (da_cons (df_var (pv 6)) da_nil))))))))))))))
noncomputable abbrev s__law_keys : Stmt := topS 79
theorem sc__law_keys : FnScope ["kind", "some"] ["kind"] (defScope s__law_keys) := ⟨rfl, rfl, rfl, by decide +kernel, rfl, by decide +kernel, by decide +kernel⟩
noncomputable def F__law_keys : List D → Res Cell := runs 1 1 (sSeq (sSet 1 (mMap Cell.ow (mOpt okLen (aCons (gC (.str "base")) (aCons (gC (.str "sign")) (aCons (gC (.str "groups")) (aCons (gC (.str "point")) (aCons (gC (.str "way")) aNil))))))))
  (sSeq (sIf (mOpt2 hEqS (gVar 0) (gC (.str "word"))) (sSet 1 (mMap Cell.ow (mOpt okLen (aCons (gC (.str "blank")) aNil)))) sNil)
  (sSeq (sIf (mOpt2 hEqS (gVar 0) (gC (.str "choice"))) (sSet 1 (mMap Cell.ow (mOpt okLen aNil))) sNil)
  (sRet (mMap Cell.ow (mOpt2 hCat (gVar 1) (mOpt Cell.toD (mMap Cell.ow (mOpt okLen (aCons (gC (.str "width")) (aCons (gC (.str "fill")) (aCons (gC (.str "side")) (aCons (gC (.str "strict")) aNil)))))))))))))
theorem d__law_keys {P : Program} {w : World} {K : Fg} {mg : Str → Option Value} {base : Heap} {f : Addr} {fd : FuncData} (F : FunA K "_law_keys" "_law_keys" s__law_keys f fd) (B : Bn mg) : FnOk P w K mg base CX0 1 f fd ["kind"] (pureSp ⟨K, P, w, mg⟩ F__law_keys) :=
  fn_p0 (k := 0) F sc__law_keys rfl fun cdv A outer s H E hr =>
  (dss_cons (ds_set (i := 1) sc__law_keys.nd rfl (by first | exact .inl rfl | exact .inr rfl) (de_lst (da_cons df_str (da_cons df_str (da_cons df_str (da_cons df_str (da_cons df_str da_nil)))))))
  (dss_cons (ds_if (dt_cmpD cd_eqS (df_var (pv 0)) df_str) (dss_one (ds_set (i := 1) sc__law_keys.nd rfl (by first | exact .inl rfl | exact .inr rfl) (de_lst (da_cons df_str da_nil)))) dss_nil)
  (dss_cons (ds_if (dt_cmpD cd_eqS (df_var (pv 0)) df_str) (dss_one (ds_set (i := 1) sc__law_keys.nd rfl (by first | exact .inl rfl | exact .inr rfl) (de_lst da_nil))) dss_nil)
  (dss_one (ds_ret (de_cat (df_var (pv 1)) (df_e (de_lst (da_cons df_str (da_cons df_str (da_cons df_str (da_cons df_str da_nil))))))))))))
noncomputable abbrev s__law_lists : Stmt := topS 80
theorem sc__law_lists : FnScope ["kind", "sides", "ways"] ["kind"] (defScope s__law_lists) := ⟨rfl, rfl, rfl, by decide +kernel, rfl, by decide +kernel, by decide +kernel⟩
noncomputable def F__law_lists : List D → Res Cell := runs 1 2 (sSeq (sSet 1 (mMap Cell.ow (mOpt2 hCat (mOpt Cell.toD (mMap Cell.ow (mOpt okLen (aCons (gC (.str "left")) (aCons (gC (.str "right")) (aCons (gC (.str "middle")) aNil)))))) (mOpt Cell.toD (gSlL (mOpt Cell.toD (mMap Cell.ow (mOpt okLen (aCons (gC (.str "inside")) aNil)))) (mPart none) (mPart (some (mOpt hInt (aCons (mMap D.bl (mOpt2 hEqS (gVar 0) (gC (.str "number")))) aNil)))))))))
  (sSeq (sSet 2 (mMap Cell.ow (mOpt okLen (aCons (gC (.str "down")) (aCons (gC (.str "up")) (aCons (gC (.str "cut")) (aCons (gC (.str "near")) (aCons (gC (.str "even")) aNil))))))))
  (sRet (gDisp [("style", (mOpt Cell.toD (mMap Cell.ow (mOpt okLen (aCons (gC (.str "minus")) (aCons (gC (.str "plus")) (aCons (gC (.str "blank")) (aCons (gC (.str "brackets")) (aCons (gC (.str "behind")) aNil))))))))), ("way", (gVar 2)), ("side", (gVar 1))]))))
theorem d__law_lists {P : Program} {w : World} {K : Fg} {mg : Str → Option Value} {base : Heap} {f : Addr} {fd : FuncData} (F : FunA K "_law_lists" "_law_lists" s__law_lists f fd) (B : Bn mg) : FnOk P w K mg base CX0 1 f fd ["kind"] (pureSp ⟨K, P, w, mg⟩ F__law_lists) :=
  fn_p0 (k := 0) F sc__law_lists rfl fun cdv A outer s H E hr =>
  (dss_cons (ds_set (i := 1) sc__law_lists.nd rfl (by first | exact .inl rfl | exact .inr rfl) (de_cat (df_e (de_lst (da_cons df_str (da_cons df_str (da_cons df_str da_nil))))) (df_e (de_slL (df_e (de_lst (da_cons df_str da_nil))) dp_none (dp_some (df_callInt rfl B.b_int (da_cons (df_cmpD cd_eqS (df_var (pv 0)) df_str) da_nil)))))))
  (dss_cons (ds_set (i := 2) sc__law_lists.nd rfl (by first | exact .inl rfl | exact .inr rfl) (de_lst (da_cons df_str (da_cons df_str (da_cons df_str (da_cons df_str (da_cons df_str da_nil)))))))
  (dss_one (ds_ret (de_disp (EN := E) (l := [("style", (mOpt Cell.toD (mMap Cell.ow (mOpt okLen (aCons (gC (.str "minus")) (aCons (gC (.str "plus")) (aCons (gC (.str "blank")) (aCons (gC (.str "brackets")) (aCons (gC (.str "behind")) aNil))))))))), ("way", (gVar 2)), ("side", (gVar 1))]) (pps_cons pe_str (df_e (de_lst (da_cons df_str (da_cons df_str (da_cons df_str (da_cons df_str (da_cons df_str da_nil))))))) (pps_cons pe_str (df_var (pv 2)) (pps_cons pe_str (df_var (pv 1)) pps_nil))) rfl rfl (by simp) (by decide))))))
noncomputable abbrev s__law_language : Stmt := topS 81
theorem sc__law_language : FnScope ["some", "lists"] [] (defScope s__law_language) := ⟨rfl, rfl, rfl, by decide +kernel, rfl, by decide +kernel, by decide +kernel⟩
noncomputable def F__law_language : List D → Res Cell := runs 0 2 (sSeq (sSet 0 (mMap Cell.ow (mOpt2 hCat (mOpt Cell.toD (mMap Cell.ow (mOpt okLen (aCons (gC (.str "number")) (aCons (gC (.str "word")) (aCons (gC (.str "choice")) (aCons (gC (.str "blank")) (aCons (gC (.str "inside")) (aCons (gC (.str "lower")) (aCons (gC (.str "upper")) (aCons (gC (.str "figures")) (aCons (gC (.str "all")) aNil)))))))))))) (mOpt Cell.toD (gCall F__law_keys (aCons (gC (.str "number")) aNil))))))
  (sSeq (sSet 1 (gCall F__law_lists (aCons (gC (.str "choice")) aNil)))
  (sRet (mMap Cell.ow (mOpt2 hCat (mOpt Cell.toD (mMap Cell.ow (mOpt2 hCat (mOpt Cell.toD (mMap Cell.ow (mOpt2 hCat (gVar 0) (gDicN 1 (gC (.str "style")))))) (gDicN 1 (gC (.str "way")))))) (gDicN 1 (gC (.str "side"))))))))
theorem d__law_language {P : Program} {w : World} {K : Fg} {mg : Str → Option Value} {base : Heap} {f : Addr} {fd : FuncData} (F : FunA K "_law_language" "_law_language" s__law_language f fd) (B : Bn mg) (c__law_keys : DCal P w K mg base CX0 1 "_law_keys" F__law_keys) (c__law_lists : DCal P w K mg base CX0 1 "_law_lists" F__law_lists) : FnOk P w K mg base CX0 2 f fd [] (pureSp ⟨K, P, w, mg⟩ F__law_language) :=
  fn_p0 (k := 1) F sc__law_language rfl fun cdv A outer s H E hr =>
  (dss_cons (ds_set (i := 0) sc__law_language.nd rfl (by first | exact .inl rfl | exact .inr rfl) (de_cat (df_e (de_lst (da_cons df_str (da_cons df_str (da_cons df_str (da_cons df_str (da_cons df_str (da_cons df_str (da_cons df_str (da_cons df_str (da_cons df_str da_nil))))))))))) (df_e (de_call c__law_keys hr (by decide) rfl (da_cons df_str da_nil)))))
  (dss_cons (ds_set (i := 1) sc__law_language.nd rfl (by first | exact .inl rfl | exact .inr rfl) (de_call c__law_lists hr (by decide) rfl (da_cons df_str da_nil)))
  (dss_one (ds_ret (de_cat (df_e (de_cat (df_e (de_cat (df_var (pv 0)) (df_dicN (hu_of hr) (pv 1) df_str))) (df_dicN (hu_of hr) (pv 1) df_str))) (df_dicN (hu_of hr) (pv 1) df_str))))))
noncomputable abbrev s__law_new_word : Stmt := topS 85
theorem sc__law_new_word : FnScope ["own", "cell", "salt", "signs", "way", "sign", "at", "many", "some", "words", "k"] ["own", "cell", "salt"] (defScope s__law_new_word) := ⟨rfl, rfl, rfl, by decide +kernel, rfl, by decide +kernel, by decide +kernel⟩
noncomputable def F__law_new_word : List D → Res Cell := runs 3 8 (sSeq (sSet 3 (mMap Cell.fz (gSlS (mOpt Cell.toD (gCall F__law_all_signs aNil)) (mPart (some (gC (.int 1)))) (mPart none))))
  (sSeq (sSet 4 (gCall F__law_pick (aCons (gVar 1) (aCons (gVar 2) (aCons (gC (.int 8)) aNil)))))
  (sSeq (sSet 5 (mMap Cell.fz (mOpt2 hIx (gVar 3) (mOpt Cell.toD (gCall F__law_pick (aCons (gVar 1) (aCons (mOpt2 hAdd (gVar 2) (gC (.int 1))) (aCons (gC (.int 93)) aNil))))))))
  (sSeq (sSet 6 (gCall F__law_pick (aCons (gVar 1) (aCons (mOpt2 hAdd (gVar 2) (gC (.int 2))) (aCons (mOpt2 hAdd (mOpt hLen (aCons (gVar 0) aNil)) (gC (.int 1))) aNil)))))
  (sSeq (sIf (mOpt2 hLt (gVar 4) (gC (.int 4))) (sSeq (sSet 8 (mMap Cell.ow (mOpt okLen (aCons (mOpt2 hAdd (mOpt2 hAdd (gSlS (gVar 0) (mPart none) (mPart (some (gVar 6)))) (gVar 5)) (gSlS (gVar 0) (mPart (some (gVar 6))) (mPart none))) (aCons (mOpt2 hAdd (mOpt2 hAdd (gSlS (gVar 0) (mPart none) (mPart (some (gVar 6)))) (gVar 5)) (gSlS (gVar 0) (mPart (some (mOpt2 hAdd (gVar 6) (gC (.int 1))))) (mPart none))) (aCons (mOpt2 hAdd (gSlS (gVar 0) (mPart none) (mPart (some (gVar 6)))) (gSlS (gVar 0) (mPart (some (mOpt2 hAdd (gVar 6) (gC (.int 1))))) (mPart none))) aNil))))))
  (sRet (mMap Cell.fz (mOpt2 hIx (mOpt Cell.toD (mMap Cell.ow (mOpt2 hCat (gVar 8) (mOpt Cell.toD (mMap Cell.ow (mOpt okLen (aCons (mOpt2 hAdd (mOpt2 hAdd (gSlS (gVar 0) (mPart none) (mPart (some (gVar 6)))) (gSlS (gVar 0) (mPart (some (gVar 6))) (mPart (some (mOpt2 hAdd (gVar 6) (gC (.int 1))))))) (gSlS (gVar 0) (mPart (some (gVar 6))) (mPart none))) aNil))))))) (gVar 4))))) sNil)
  (sSeq (sIf (mOpt2 hLt (gVar 4) (gC (.int 7))) (sSeq (sSet 9 (gCall F__law_language aNil))
  (sRet (mMap Cell.fz (gIxN 9 (mOpt Cell.toD (gCall F__law_pick (aCons (gVar 1) (aCons (mOpt2 hAdd (gVar 2) (gC (.int 3))) (aCons (gLenN 9) aNil))))))))) sNil)
  (sSeq (sSet 7 (mMap Cell.fz (mOpt2 hAdd (gC (.int 1)) (mOpt Cell.toD (gCall F__law_pick (aCons (gVar 1) (aCons (mOpt2 hAdd (gVar 2) (gC (.int 3))) (aCons (gC (.int 12)) aNil))))))))
  (sRet (mMap Cell.fz (gBM isStrD hJoin (gC (.str "")) (aCons (mOpt Cell.toD (gComp (mOpt hRng1 (aCons (gVar 7) aNil)) (gtName 10) mYes (mOpt2 hIx (gVar 3) (mOpt Cell.toD (gCall F__law_pick (aCons (gVar 1) (aCons (mOpt2 hAdd (mOpt2 hAdd (gVar 2) (gC (.int 4))) (gVar 10)) (aCons (gC (.int 93)) aNil)))))) [10])) aNil)))))))))))
theorem d__law_new_word {P : Program} {w : World} {K : Fg} {mg : Str → Option Value} {base : Heap} {f : Addr} {fd : FuncData} (F : FunA K "_law_new_word" "_law_new_word" s__law_new_word f fd) (B : Bn mg) (c__law_all_signs : DCal P w K mg base CX0 1 "_law_all_signs" F__law_all_signs) (c__law_pick : DCal P w K mg base CX0 1 "_law_pick" F__law_pick) (c__law_language : DCal P w K mg base CX0 2 "_law_language" F__law_language) : FnOk P w K mg base CX0 3 f fd ["own", "cell", "salt"] (pureSp ⟨K, P, w, mg⟩ F__law_new_word) :=
  fn_p0 (k := 2) F sc__law_new_word rfl fun cdv A outer s H E hr =>
  (dss_cons (ds_set (i := 3) sc__law_new_word.nd rfl (by first | exact .inl rfl | exact .inr rfl) (de_f (df_slS (df_e (de_call0 c__law_all_signs hr (by decide) rfl)) (dp_some df_int) dp_none)))
  (dss_cons (ds_set (i := 4) sc__law_new_word.nd rfl (by first | exact .inl rfl | exact .inr rfl) (de_call c__law_pick hr (by decide) rfl (da_cons (df_var (pv 1)) (da_cons (df_var (pv 2)) (da_cons df_int da_nil)))))
  (dss_cons (ds_set (i := 5) sc__law_new_word.nd rfl (by first | exact .inl rfl | exact .inr rfl) (de_f (df_ix (df_var (pv 3)) (df_e (de_call c__law_pick hr (by decide) rfl (da_cons (df_var (pv 1)) (da_cons (df_add (df_var (pv 2)) df_int) (da_cons df_int da_nil))))))))
  (dss_cons (ds_set (i := 6) sc__law_new_word.nd rfl (by first | exact .inl rfl | exact .inr rfl) (de_call c__law_pick hr (by decide) rfl (da_cons (df_var (pv 1)) (da_cons (df_add (df_var (pv 2)) df_int) (da_cons (df_add (df_len rfl B.b_len (da_cons (df_var (pv 0)) da_nil)) df_int) da_nil)))))
  (dss_cons (ds_if (dt_cmpD cd_lt (df_var (pv 4)) df_int) (dss_cons (ds_set (i := 8) sc__law_new_word.nd rfl (by first | exact .inl rfl | exact .inr rfl) (de_lst (da_cons (df_add (df_add (df_slS (df_var (pv 0)) dp_none (dp_some (df_var (pv 6)))) (df_var (pv 5))) (df_slS (df_var (pv 0)) (dp_some (df_var (pv 6))) dp_none)) (da_cons (df_add (df_add (df_slS (df_var (pv 0)) dp_none (dp_some (df_var (pv 6)))) (df_var (pv 5))) (df_slS (df_var (pv 0)) (dp_some (df_add (df_var (pv 6)) df_int)) dp_none)) (da_cons (df_add (df_slS (df_var (pv 0)) dp_none (dp_some (df_var (pv 6)))) (df_slS (df_var (pv 0)) (dp_some (df_add (df_var (pv 6)) df_int)) dp_none)) da_nil)))))
  (dss_one (ds_ret (de_f (df_ix (df_e (de_cat (df_var (pv 8)) (df_e (de_lst (da_cons (df_add (df_add (df_slS (df_var (pv 0)) dp_none (dp_some (df_var (pv 6)))) (df_slS (df_var (pv 0)) (dp_some (df_var (pv 6))) (dp_some (df_add (df_var (pv 6)) df_int)))) (df_slS (df_var (pv 0)) (dp_some (df_var (pv 6))) dp_none)) da_nil))))) (df_var (pv 4))))))) dss_nil)
  (dss_cons (ds_if (dt_cmpD cd_lt (df_var (pv 4)) df_int) (dss_cons (ds_set (i := 9) sc__law_new_word.nd rfl (by first | exact .inl rfl | exact .inr rfl) (de_call0 c__law_language hr (by decide) rfl))
  (dss_one (ds_ret (de_f (df_ixN (pv 9) (df_e (de_call c__law_pick hr (by decide) rfl (da_cons (df_var (pv 1)) (da_cons (df_add (df_var (pv 2)) df_int) (da_cons (df_lenN (pv 9) rfl B.b_len) da_nil)))))))))) dss_nil)
  (dss_cons (ds_set (i := 7) sc__law_new_word.nd rfl (by first | exact .inl rfl | exact .inr rfl) (de_f (df_add df_int (df_e (de_call c__law_pick hr (by decide) rfl (da_cons (df_var (pv 1)) (da_cons (df_add (df_var (pv 2)) df_int) (da_cons df_int da_nil))))))))
  (dss_one (ds_ret (de_f (df_join df_str (da_cons (df_e (de_lc (EN := E) (own := [("k", 10)]) rfl sc__law_new_word.nd (di_range1 rfl B.b_range (da_cons (df_var (pv 7)) da_nil)) (blkOk_by (N := ["own", "cell", "salt", "signs", "way", "sign", "at", "many", "some", "words", "k"]) (sc := defScope s__law_new_word) (own := [("k", 10)]) (by decide +kernel)) (fun _ _ _ _ _ => (dg_name sc__law_new_word.nd (i := 10) rfl (by first | exact .inl rfl | exact .inr rfl))) (fun _ _ _ _ _ => dts_nil) (fun _ _ _ _ _ => (df_ix (df_var (pv 3)) (df_e (de_call c__law_pick hr (by decide) rfl (da_cons (df_var (pv 1)) (da_cons (df_add (df_add (df_var (pv 2)) df_int) (df_var (pv 10))) (da_cons df_int da_nil))))))))) da_nil))))))))))))
noncomputable abbrev s__law_is_figures : Stmt := topS 83
theorem sc__law_is_figures : FnScope ["word", "sign"] ["word"] (defScope s__law_is_figures) := ⟨rfl, rfl, rfl, by decide +kernel, rfl, by decide +kernel, by decide +kernel⟩
noncomputable def F__law_is_figures : List D → Res Cell := runs 1 1 (sSeq (sIf (mOr (mOpt2 hEqS (gVar 0) (gC (.str ""))) (mOr (mOpt2 hGt (mOpt hLen (aCons (gVar 0) aNil)) (gC (.int 2))) (mOpt2 hNeD (mOpt Cell.toD (gComp (mOpt hSgn (gVar 0)) (gtName 1) (mOpt2 hNotInQ (gVar 1) (gC (.str "0123456789"))) (gVar 1) [1])) (mOpt Cell.toD (mMap Cell.ow (mOpt okLen aNil)))))) (sRet (mMap Cell.fz (gC (.bl false)))) sNil)
  (sRet (mMap Cell.fz (vOr (mMap D.bl (mOpt2 hEqS (gVar 0) (gC (.str "0")))) (mMap D.bl (mOpt2 hNeS (mOpt2 hIx (gVar 0) (gC (.int 0))) (gC (.str "0"))))))))
theorem d__law_is_figures {P : Program} {w : World} {K : Fg} {mg : Str → Option Value} {base : Heap} {f : Addr} {fd : FuncData} (F : FunA K "_law_is_figures" "_law_is_figures" s__law_is_figures f fd) (B : Bn mg) : FnOk P w K mg base CX0 1 f fd ["word"] (pureSp ⟨K, P, w, mg⟩ F__law_is_figures) :=
  fn_p0 (k := 0) F sc__law_is_figures rfl fun cdv A outer s H E hr =>
  (dss_cons (ds_if (dt_w (dw_or (dt_cmpD cd_eqS (df_var (pv 0)) df_str) (dw_or (dt_cmpD cd_gt (df_len rfl B.b_len (da_cons (df_var (pv 0)) da_nil)) df_int) (dw_or1 (dt_cmpD (cd_neD (hr.units)) (df_e (de_lc (EN := E) (own := [("sign", 1)]) rfl sc__law_is_figures.nd (di_str (df_var (pv 0))) (blkOk_by (N := ["word", "sign"]) (sc := defScope s__law_is_figures) (own := [("sign", 1)]) (by decide +kernel)) (fun _ _ _ _ _ => (dg_name sc__law_is_figures.nd (i := 1) rfl (by first | exact .inl rfl | exact .inr rfl))) (fun _ _ _ _ _ => (dts_one (dt_cmpD cd_notInQ (df_var (pv 1)) df_str))) (fun _ _ _ _ _ => (df_var (pv 1))))) (df_e (de_lst da_nil))))))) (dss_one (ds_ret (de_f df_bl))) dss_nil)
  (dss_one (ds_ret (de_f (df_or (df_cmpD cd_eqS (df_var (pv 0)) df_str) (df_one (df_cmpD cd_neS (df_ix (df_var (pv 0)) df_int) df_str)))))))
noncomputable abbrev s__law_rises : Stmt := topS 82
theorem sc__law_rises : FnScope ["signs", "one", "other"] ["signs"] (defScope s__law_rises) := ⟨rfl, rfl, rfl, by decide +kernel, rfl, by decide +kernel, by decide +kernel⟩
noncomputable def F__law_rises : List D → Res Cell := runs 1 2 (sRet (mMap Cell.fz (mOpt hAll (aCons (mOpt Cell.toD (gComp (mOpt hZipS (aCons (gVar 0) (aCons (gSlS (gVar 0) (mPart (some (gC (.int 1)))) (mPart none)) aNil))) (gtTup 2 (gtCons (gtName 1) (gtCons (gtName 2) gtNil))) mYes (mMap D.bl (mOpt2 hLt (gVar 1) (gVar 2))) [1, 2])) aNil))))
theorem d__law_rises {P : Program} {w : World} {K : Fg} {mg : Str → Option Value} {base : Heap} {f : Addr} {fd : FuncData} (F : FunA K "_law_rises" "_law_rises" s__law_rises f fd) (B : Bn mg) : FnOk P w K mg base CX0 1 f fd ["signs"] (pureSp ⟨K, P, w, mg⟩ F__law_rises) :=
  fn_p0 (k := 0) F sc__law_rises rfl fun cdv A outer s H E hr =>
  (dss_one (ds_ret (de_f (df_all rfl rfl B.b_all (da_cons (df_e (de_lc (EN := E) (own := [("one", 1), ("other", 2)]) rfl sc__law_rises.nd (di_zipS rfl B.b_zip (da_cons (df_var (pv 0)) (da_cons (df_slS (df_var (pv 0)) (dp_some df_int) dp_none) da_nil))) (blkOk_by (N := ["signs", "one", "other"]) (sc := defScope s__law_rises) (own := [("one", 1), ("other", 2)]) (by decide +kernel)) (fun _ _ _ _ _ => (dg_tup rfl (dgs_cons (dg_name sc__law_rises.nd (i := 1) rfl (by first | exact .inl rfl | exact .inr rfl)) (dgs_cons (dg_name sc__law_rises.nd (i := 2) rfl (by first | exact .inl rfl | exact .inr rfl)) dgs_nil)))) (fun _ _ _ _ _ => dts_nil) (fun _ _ _ _ _ => (df_cmpD cd_lt (df_var (pv 1)) (df_var (pv 2)))))) da_nil)))))
noncomputable abbrev s__law_may_stand : Stmt := topS 84
theorem sc__law_may_stand : FnScope ["rows", "at", "word", "kind", "own", "role", "low", "high", "keys", "told", "name", "some", "row"] ["rows", "at", "word"] (defScope s__law_may_stand) := ⟨rfl, rfl, rfl, by decide +kernel, rfl, by decide +kernel, by decide +kernel⟩
noncomputable def F__law_may_stand : List D → Res Cell := runs 3 10 (sSeq (sSet 3 (mMap Cell.fz (mOpt2 hIx (gIxN 0 (gC (.int 0))) (gC (.int 0)))))
  (sSeq (sAsg (mOpt2 hIx (mOpt Cell.toD (mMap Cell.ow (mOpt2 hCat (gVar 0) (mOpt Cell.toD (mMap Cell.ow (mOpt okLen (aCons (mMap D.tup (mOpt okLen (aCons (gC (.str "")) (aCons (gC (.str "key")) (aCons (gC (.int 0)) (aCons (gC (.int 0)) aNil)))))) aNil))))))) (gVar 1)) (gtTup 4 (gtCons (gtName 4) (gtCons (gtName 5) (gtCons (gtName 6) (gtCons (gtName 7) gtNil))))))
  (sSeq (sIf (mOpt2 hEqS (gVar 5) (gC (.str "kind"))) (sRet (mMap Cell.fz (mMap D.bl (mOpt2 hInQ (gVar 2) (mMap D.tup (mOpt okLen (aCons (gC (.str "number")) (aCons (gC (.str "word")) (aCons (gC (.str "choice")) aNil))))))))) sNil)
  (sSeq (sIf (mOpt2 hEqS (gVar 5) (gC (.str "number"))) (sRet (mMap Cell.fz (vAnd (mOpt Cell.toD (gCall F__law_is_figures (aCons (gVar 2) aNil))) (mMap D.bl (gChain hLe hLe (gVar 6) (mOpt hIntS (aCons (gVar 2) aNil)) (gVar 7)))))) sNil)
  (sSeq (sIf (mOpt2 hEqS (gVar 5) (gC (.str "sign"))) (sRet (mMap Cell.fz (vOr (mMap D.bl (mOpt2 hEqS (mOpt hLen (aCons (gVar 2) aNil)) (gC (.int 1)))) (mMap D.bl (mOpt2 hEqS (gVar 2) (gC (.str "blank"))))))) sNil)
  (sSeq (sIf (mOpt2 hEqS (gVar 5) (gC (.str "signs"))) (sSeq (sIf (mOpt2 hInQ (gVar 2) (mOpt Cell.toD (gComp (mOpt hLst (mOpt Cell.toD (gCall F__law_sets aNil))) (gtTup 2 (gtCons (gtName 10) (gtCons (gtName 11) gtNil))) mYes (gVar 10) [10, 11]))) (sRet (mMap Cell.fz (gC (.bl true)))) sNil)
  (sRet (mMap Cell.fz (vAnd (mMap D.bl (mOpt2 hEqS (gSlS (gVar 2) (mPart none) (mPart (some (gC (.int 1))))) (gC (.str "=")))) (vAnd (mMap D.bl (mOpt2 hGt (mOpt hLen (aCons (gVar 2) aNil)) (gC (.int 1)))) (mOpt Cell.toD (gCall F__law_rises (aCons (gSlS (gVar 2) (mPart (some (gC (.int 1)))) (mPart none)) aNil)))))))) sNil)
  (sSeq (sIf (mOpt2 hEqS (gVar 5) (gC (.str "name"))) (sRet (mMap Cell.fz (vAnd (mMap D.bl (gChain hLe hLe (gC (.int 1)) (mOpt hLen (aCons (gVar 2) aNil)) (gC (.int 12)))) (mMap D.bl (mOpt2 hNotInQ (gVar 2) (mOpt Cell.toD (gComp (mOpt hLst (mOpt Cell.toD (gSlL (gVar 0) (mPart (some (gC (.int 2)))) (mPart (some (gVar 1)))))) (gtName 12) mYes (mOpt2 hIx (gVar 12) (gC (.int 0))) [12]))))))) sNil)
  (sSeq (sIf (mOpt2 hEqS (gVar 5) (gC (.str "key"))) (sSeq (sSet 8 (gCall F__law_keys (aCons (gVar 3) aNil)))
  (sSeq (sSet 9 (gComp (mOpt hLst (mOpt Cell.toD (gSlL (gVar 0) (mPart none) (mPart (some (gVar 1)))))) (gtName 12) (mOpt2 hEqS (mOpt2 hIx (gVar 12) (gC (.int 1))) (gC (.str "key"))) (gBM isLstD hIndex (gVar 8) (aCons (mOpt2 hIx (gVar 12) (gC (.int 0))) aNil)) [12]))
  (sRet (mMap Cell.fz (mMap D.bl (mOpt2 hInQ (gVar 2) (mOpt Cell.toD (gSlL (gVar 8) (mPart (some (mOpt2 hAdd (mOpt hMax (aCons (mOpt Cell.toD (mMap Cell.ow (mOpt2 hCat (gVar 9) (mOpt Cell.toD (mMap Cell.ow (mOpt okLen (aCons (mOpt hNeg (gC (.int 1))) aNil))))))) aNil)) (gC (.int 1))))) (mPart none))))))))) sNil)
  (sRet (mMap Cell.fz (mMap D.bl (mOpt2 hInQ (gVar 2) (mOpt2 hDic (mOpt Cell.toD (gCall F__law_lists (aCons (gVar 3) aNil))) (gVar 5))))))))))))))
theorem d__law_may_stand {P : Program} {w : World} {K : Fg} {mg : Str → Option Value} {base : Heap} {f : Addr} {fd : FuncData} (F : FunA K "_law_may_stand" "_law_may_stand" s__law_may_stand f fd) (B : Bn mg) (c__law_is_figures : DCal P w K mg base CX0 1 "_law_is_figures" F__law_is_figures) (c__law_sets : DCal P w K mg base CX0 2 "_law_sets" F__law_sets) (c__law_rises : DCal P w K mg base CX0 1 "_law_rises" F__law_rises) (c__law_keys : DCal P w K mg base CX0 1 "_law_keys" F__law_keys) (c__law_lists : DCal P w K mg base CX0 1 "_law_lists" F__law_lists) : FnOk P w K mg base CX0 3 f fd ["rows", "at", "word"] (pureSp ⟨K, P, w, mg⟩ F__law_may_stand) :=
  fn_p0 (k := 2) F sc__law_may_stand rfl fun cdv A outer s H E hr =>
  (dss_cons (ds_set (i := 3) sc__law_may_stand.nd rfl (by first | exact .inl rfl | exact .inr rfl) (de_f (df_ix (df_ixN (pv 0) df_int) df_int)))
  (dss_cons (ds_asg (df_ix (df_e (de_cat (df_var (pv 0)) (df_e (de_lst (da_cons (df_tup (da_cons df_str (da_cons df_str (da_cons df_int (da_cons df_int da_nil))))) da_nil))))) (df_var (pv 1))) (dg_tup rfl (dgs_cons (dg_name sc__law_may_stand.nd (i := 4) rfl (by first | exact .inl rfl | exact .inr rfl)) (dgs_cons (dg_name sc__law_may_stand.nd (i := 5) rfl (by first | exact .inl rfl | exact .inr rfl)) (dgs_cons (dg_name sc__law_may_stand.nd (i := 6) rfl (by first | exact .inl rfl | exact .inr rfl)) (dgs_cons (dg_name sc__law_may_stand.nd (i := 7) rfl (by first | exact .inl rfl | exact .inr rfl)) dgs_nil))))) (hnx := (nx_tup (nx_cons nx_name (nx_cons nx_name (nx_cons nx_name (nx_cons nx_name nx_nil)))))))
  (dss_cons (ds_if (dt_cmpD cd_eqS (df_var (pv 5)) df_str) (dss_one (ds_ret (de_f (df_cmpD cd_inQ (df_var (pv 2)) (df_tup (da_cons df_str (da_cons df_str (da_cons df_str da_nil)))))))) dss_nil)
  (dss_cons (ds_if (dt_cmpD cd_eqS (df_var (pv 5)) df_str) (dss_one (ds_ret (de_f (df_and (df_e (de_call c__law_is_figures hr (by decide) rfl (da_cons (df_var (pv 2)) da_nil))) (df_one (df_chain cd_le cd_le (df_var (pv 6)) (df_intS rfl B.b_int (da_cons (df_var (pv 2)) da_nil)) (df_var (pv 7)))))))) dss_nil)
  (dss_cons (ds_if (dt_cmpD cd_eqS (df_var (pv 5)) df_str) (dss_one (ds_ret (de_f (df_or (df_cmpD cd_eqS (df_len rfl B.b_len (da_cons (df_var (pv 2)) da_nil)) df_int) (df_one (df_cmpD cd_eqS (df_var (pv 2)) df_str)))))) dss_nil)
  (dss_cons (ds_if (dt_cmpD cd_eqS (df_var (pv 5)) df_str) (dss_cons (ds_if (dt_cmpD cd_inQ (df_var (pv 2)) (df_e (de_lc (EN := E) (own := [("name", 10), ("some", 11)]) rfl sc__law_may_stand.nd (di_list (df_e (de_call0 c__law_sets hr (by decide) rfl))) (blkOk_by (N := ["rows", "at", "word", "kind", "own", "role", "low", "high", "keys", "told", "name", "some", "row"]) (sc := defScope s__law_may_stand) (own := [("name", 10), ("some", 11)]) (by decide +kernel)) (fun _ _ _ _ _ => (dg_tup rfl (dgs_cons (dg_name sc__law_may_stand.nd (i := 10) rfl (by first | exact .inl rfl | exact .inr rfl)) (dgs_cons (dg_name sc__law_may_stand.nd (i := 11) rfl (by first | exact .inl rfl | exact .inr rfl)) dgs_nil)))) (fun _ _ _ _ _ => dts_nil) (fun _ _ _ _ _ => (df_var (pv 10)))))) (dss_one (ds_ret (de_f df_bl))) dss_nil)
  (dss_one (ds_ret (de_f (df_and (df_cmpD cd_eqS (df_slS (df_var (pv 2)) dp_none (dp_some df_int)) df_str) (df_and (df_cmpD cd_gt (df_len rfl B.b_len (da_cons (df_var (pv 2)) da_nil)) df_int) (df_one (df_e (de_call c__law_rises hr (by decide) rfl (da_cons (df_slS (df_var (pv 2)) (dp_some df_int) dp_none) da_nil)))))))))) dss_nil)
  (dss_cons (ds_if (dt_cmpD cd_eqS (df_var (pv 5)) df_str) (dss_one (ds_ret (de_f (df_and (df_chain cd_le cd_le df_int (df_len rfl B.b_len (da_cons (df_var (pv 2)) da_nil)) df_int) (df_one (df_cmpD cd_notInQ (df_var (pv 2)) (df_e (de_lc (EN := E) (own := [("row", 12)]) rfl sc__law_may_stand.nd (di_list (df_e (de_slL (df_var (pv 0)) (dp_some df_int) (dp_some (df_var (pv 1)))))) (blkOk_by (N := ["rows", "at", "word", "kind", "own", "role", "low", "high", "keys", "told", "name", "some", "row"]) (sc := defScope s__law_may_stand) (own := [("row", 12)]) (by decide +kernel)) (fun _ _ _ _ _ => (dg_name sc__law_may_stand.nd (i := 12) rfl (by first | exact .inl rfl | exact .inr rfl))) (fun _ _ _ _ _ => dts_nil) (fun _ _ _ _ _ => (df_ix (df_var (pv 12)) df_int)))))))))) dss_nil)
  (dss_cons (ds_if (dt_cmpD cd_eqS (df_var (pv 5)) df_str) (dss_cons (ds_set (i := 8) sc__law_may_stand.nd rfl (by first | exact .inl rfl | exact .inr rfl) (de_call c__law_keys hr (by decide) rfl (da_cons (df_var (pv 3)) da_nil)))
  (dss_cons (ds_setLc (EN := E) (i := 9) (own := [("row", 12)]) rfl sc__law_may_stand.nd rfl rfl (sw_true rfl rfl rfl (by decide +kernel)) (di_list (df_e (de_slL (df_var (pv 0)) dp_none (dp_some (df_var (pv 1)))))) (blkOk_by (N := ["rows", "at", "word", "kind", "own", "role", "low", "high", "keys", "told", "name", "some", "row"]) (sc := defScope s__law_may_stand) (own := [("row", 12)]) (by decide +kernel)) (fun _ _ _ _ _ => (dg_name sc__law_may_stand.nd (i := 12) rfl (by first | exact .inl rfl | exact .inr rfl))) (fun _ _ _ _ _ => (dts_one (dt_cmpD cd_eqS (df_ix (df_var (pv 12)) df_int) df_str))) (fun _ _ _ _ _ => (df_index (df_var (pv 8)) (da_cons (df_ix (df_var (pv 12)) df_int) da_nil))))
  (dss_one (ds_ret (de_f (df_cmpD cd_inQ (df_var (pv 2)) (df_e (de_slL (df_var (pv 8)) (dp_some (df_add (df_max rfl rfl B.b_max (da_cons (df_e (de_cat (df_var (pv 9)) (df_e (de_lst (da_cons (df_neg df_int) da_nil))))) da_nil)) df_int)) dp_none)))))))) dss_nil)
  (dss_one (ds_ret (de_f (df_cmpD cd_inQ (df_var (pv 2)) (df_dic (hu_of hr) (df_e (de_call c__law_lists hr (by decide) rfl (da_cons (df_var (pv 3)) da_nil))) (df_var (pv 5)))))))))))))))
noncomputable abbrev s__law_one_right : Stmt := topS 86
theorem sc__law_one_right : FnScope ["rows", "cell", "salt", "words", "at", "word", "mixed", "row"] ["rows", "cell", "salt"] (defScope s__law_one_right) := ⟨rfl, rfl, rfl, by decide +kernel, rfl, by decide +kernel, by decide +kernel⟩
noncomputable def F__law_one_right : List D → Res Cell := runs 3 5 (sSeq (sSet 3 (gComp (mOpt hLst (gVar 0)) (gtName 7) mYes (mOpt2 hIx (gVar 7) (gC (.int 0))) [7]))
  (sSeq (sSet 4 (gCall F__law_pick (aCons (gVar 1) (aCons (mOpt2 hAdd (gVar 2) (gC (.int 20))) (aCons (mOpt2 hAdd (gLenN 0) (gC (.int 1))) aNil)))))
  (sSeq (sSet 5 (gCall F__law_new_word (aCons (mOpt2 hIx (mOpt Cell.toD (mMap Cell.ow (mOpt2 hCat (gVar 3) (mOpt Cell.toD (mMap Cell.ow (mOpt okLen (aCons (gC (.str "strict")) aNil))))))) (gVar 4)) (aCons (gVar 1) (aCons (gVar 2) aNil)))))
  (sSeq (sIf (mOpt hBl (mOpt Cell.toD (gCall F__law_may_stand (aCons (gVar 0) (aCons (gVar 4) (aCons (gVar 5) aNil)))))) (sRet (mMap Cell.fz (gC (.bl true)))) sNil)
  (sSeq (sSet 6 (mMap Cell.ow (mOpt2 hCat (mOpt Cell.toD (mMap Cell.ow (mOpt2 hCat (mOpt Cell.toD (gSlL (gVar 3) (mPart none) (mPart (some (gVar 4))))) (mOpt Cell.toD (mMap Cell.ow (mOpt okLen (aCons (gVar 5) aNil))))))) (mOpt Cell.toD (gSlL (gVar 3) (mPart (some (mOpt2 hAdd (gVar 4) (mOpt Cell.toD (gCall F__law_pick (aCons (gVar 1) (aCons (mOpt2 hAdd (gVar 2) (gC (.int 21))) (aCons (gC (.int 2)) aNil)))))))) (mPart none))))))
  (sSeq (sIf (mOpt2 hEqS (mOpt Cell.toD (gCall F__law_pick (aCons (gVar 1) (aCons (mOpt2 hAdd (gVar 2) (gC (.int 22))) (aCons (gC (.int 3)) aNil))))) (gC (.int 0))) (sDrop (gAppend 6 (gC (.str "Q")))) sNil)
  (sRet (mMap Cell.fz (mMap D.bl (mOpt2 hEqS (mOpt Cell.toD (gCall F__law_refused (aCons (gBM isStrD hJoin (gC (.str " ")) (aCons (gVar 6) aNil)) aNil))) (gVar 4)))))))))))
theorem d__law_one_right {P : Program} {w : World} {K : Fg} {mg : Str → Option Value} {base : Heap} {f : Addr} {fd : FuncData} (F : FunA K "_law_one_right" "_law_one_right" s__law_one_right f fd) (B : Bn mg) (c__law_pick : DCal P w K mg base CX0 1 "_law_pick" F__law_pick) (c__law_new_word : DCal P w K mg base CX0 3 "_law_new_word" F__law_new_word) (c__law_may_stand : DCal P w K mg base CX0 3 "_law_may_stand" F__law_may_stand) (c__law_refused : DCal P w K mg base CX0 8 "_law_refused" F__law_refused) : FnOk P w K mg base CX0 9 f fd ["rows", "cell", "salt"] (pureSp ⟨K, P, w, mg⟩ F__law_one_right) :=
  fn_p0 (k := 8) F sc__law_one_right rfl fun cdv A outer s H E hr =>
  (dss_cons (ds_setLc (EN := E) (i := 3) (own := [("row", 7)]) rfl sc__law_one_right.nd rfl rfl (sw_true rfl rfl rfl (by decide +kernel)) (di_list (df_var (pv 0))) (blkOk_by (N := ["rows", "cell", "salt", "words", "at", "word", "mixed", "row"]) (sc := defScope s__law_one_right) (own := [("row", 7)]) (by decide +kernel)) (fun _ _ _ _ _ => (dg_name sc__law_one_right.nd (i := 7) rfl (by first | exact .inl rfl | exact .inr rfl))) (fun _ _ _ _ _ => dts_nil) (fun _ _ _ _ _ => (df_ix (df_var (pv 7)) df_int)))
  (dss_cons (ds_set (i := 4) sc__law_one_right.nd rfl (by first | exact .inl rfl | exact .inr rfl) (de_call c__law_pick hr (by decide) rfl (da_cons (df_var (pv 1)) (da_cons (df_add (df_var (pv 2)) df_int) (da_cons (df_add (df_lenN (pv 0) rfl B.b_len) df_int) da_nil)))))
  (dss_cons (ds_set (i := 5) sc__law_one_right.nd rfl (by first | exact .inl rfl | exact .inr rfl) (de_call c__law_new_word hr (by decide) rfl (da_cons (df_ix (df_e (de_cat (df_var (pv 3)) (df_e (de_lst (da_cons df_str da_nil))))) (df_var (pv 4))) (da_cons (df_var (pv 1)) (da_cons (df_var (pv 2)) da_nil)))))
  (dss_cons (ds_if (dt_val (df_e (de_call c__law_may_stand hr (by decide) rfl (da_cons (df_var (pv 0)) (da_cons (df_var (pv 4)) (da_cons (df_var (pv 5)) da_nil)))))) (dss_one (ds_ret (de_f df_bl))) dss_nil)
  (dss_cons (ds_set (i := 6) sc__law_one_right.nd rfl (by first | exact .inl rfl | exact .inr rfl) (de_cat (df_e (de_cat (df_e (de_slL (df_var (pv 3)) dp_none (dp_some (df_var (pv 4))))) (df_e (de_lst (da_cons (df_var (pv 5)) da_nil))))) (df_e (de_slL (df_var (pv 3)) (dp_some (df_add (df_var (pv 4)) (df_e (de_call c__law_pick hr (by decide) rfl (da_cons (df_var (pv 1)) (da_cons (df_add (df_var (pv 2)) df_int) (da_cons df_int da_nil))))))) dp_none))))
  (dss_cons (ds_if (dt_cmpD cd_eqS (df_e (de_call c__law_pick hr (by decide) rfl (da_cons (df_var (pv 1)) (da_cons (df_add (df_var (pv 2)) df_int) (da_cons df_int da_nil))))) df_int) (dss_one (ds_expr (df_append (pv 6) df_str))) dss_nil)
  (dss_one (ds_ret (de_f (df_cmpD cd_eqS (df_e (de_call c__law_refused hr (by decide) rfl (da_cons (df_join df_str (da_cons (df_var (pv 6)) da_nil)) da_nil))) (df_var (pv 4))))))))))))
noncomputable abbrev s__law_signs_right : Stmt := topS 87
theorem sc__law_signs_right : FnScope ["spec", "rows", "cell", "own", "at", "there", "way", "signs", "text", "row"] ["spec", "rows", "cell"] (defScope s__law_signs_right) := ⟨rfl, rfl, rfl, by decide +kernel, rfl, by decide +kernel, by decide +kernel⟩
noncomputable def F__law_signs_right : List D → Res Cell := runs 3 7 (sSeq (sSet 3 (mMap Cell.fz (gSlS (mOpt2 hIx (gIxN 1 (gC (.int 1))) (gC (.int 0))) (mPart (some (gC (.int 1)))) (mPart none))))
  (sSeq (sSet 4 (gCall F__law_pick (aCons (gVar 2) (aCons (gC (.int 251)) (aCons (mOpt hLen (aCons (gVar 3) aNil)) aNil)))))
  (sSeq (sSet 5 (gCall F__law_pick (aCons (gVar 2) (aCons (gC (.int 252)) (aCons (mOpt2 hAdd (mOpt hLen (aCons (gVar 3) aNil)) (gC (.int 1))) aNil)))))
  (sSeq (sSet 6 (gCall F__law_pick (aCons (gVar 2) (aCons (gC (.int 253)) (aCons (gC (.int 4)) aNil)))))
  (sSeq (sSet 7 (mMap Cell.fz (mOpt2 hAdd (mOpt2 hAdd (gSlS (gVar 3) (mPart none) (mPart (some (gVar 5)))) (mOpt2 hIx (mOpt Cell.toD (gCall F__law_all_signs aNil)) (mOpt2 hAdd (gC (.int 1)) (mOpt Cell.toD (gCall F__law_pick (aCons (gVar 2) (aCons (gC (.int 254)) (aCons (gC (.int 93)) aNil)))))))) (gSlS (gVar 3) (mPart (some (gVar 5))) (mPart none)))))
  (sSeq (sIf (mOpt2 hEqS (gVar 6) (gC (.int 0))) (sSet 7 (mMap Cell.fz (mOpt2 hAdd (mOpt2 hAdd (gSlS (gVar 3) (mPart none) (mPart (some (gVar 5)))) (mOpt2 hIx (gVar 3) (gVar 4))) (gSlS (gVar 3) (mPart (some (gVar 5))) (mPart none))))) sNil)
  (sSeq (sIf (mOpt2 hEqS (gVar 6) (gC (.int 1))) (sSet 7 (mMap Cell.fz (mOpt2 hAdd (mOpt2 hAdd (mOpt2 hAdd (gSlS (gVar 3) (mPart none) (mPart (some (gVar 4)))) (gSlS (gVar 3) (mPart (some (mOpt2 hAdd (gVar 4) (gC (.int 1))))) (mPart (some (mOpt2 hAdd (gVar 4) (gC (.int 2))))))) (mOpt2 hIx (gVar 3) (gVar 4))) (gSlS (gVar 3) (mPart (some (mOpt2 hAdd (gVar 4) (gC (.int 2))))) (mPart none))))) sNil)
  (sSeq (sSet 8 (mMap Cell.fz (gBM isStrD hJoin (gC (.str " ")) (aCons (mOpt Cell.toD (mMap Cell.ow (mOpt2 hCat (mOpt Cell.toD (mMap Cell.ow (mOpt okLen (aCons (gC (.str "word")) (aCons (mOpt2 hAdd (gC (.str "=")) (gVar 7)) aNil))))) (mOpt Cell.toD (gComp (mOpt hLst (mOpt Cell.toD (gSlL (gVar 1) (mPart (some (gC (.int 2)))) (mPart none)))) (gtName 9) mYes (mOpt2 hIx (gVar 9) (gC (.int 0))) [9]))))) aNil))))
  (sSeq (sIf (mNot (mOpt hBl (mOpt Cell.toD (gCall F__law_rises (aCons (gVar 7) aNil))))) (sRet (mMap Cell.fz (mMap D.bl (mOpt2 hEqS (mOpt Cell.toD (gCall F__law_refused (aCons (gVar 8) aNil))) (gC (.int 1)))))) sNil)
  (sRet (mMap Cell.fz (vAnd (mMap D.bl (mOpt2 hEqS (mOpt Cell.toD (gCall F__law_refused (aCons (gVar 8) aNil))) (mOpt hNeg (gC (.int 1))))) (mMap D.bl (mOpt2 hEqS (mOpt (hFld ["WordForm"] "signs") (mOpt Cell.toD (gCall F_read_form (aCons (gVar 8) aNil)))) (mOpt2 hAdd (mOpt2 hStrMul (gC (.str " ")) (mOpt hInt (aCons (mMap D.bl (mOpt2 hInQ (gC (.str " ")) (mOpt2 hIx (gVar 0) (gC (.int 1))))) aNil))) (gVar 7))))))))))))))))
theorem d__law_signs_right {P : Program} {w : World} {K : Fg} {mg : Str → Option Value} {base : Heap} {f : Addr} {fd : FuncData} (F : FunA K "_law_signs_right" "_law_signs_right" s__law_signs_right f fd) (B : Bn mg) (c__law_pick : DCal P w K mg base CX0 1 "_law_pick" F__law_pick) (c__law_all_signs : DCal P w K mg base CX0 1 "_law_all_signs" F__law_all_signs) (c__law_rises : DCal P w K mg base CX0 1 "_law_rises" F__law_rises) (c__law_refused : DCal P w K mg base CX0 8 "_law_refused" F__law_refused) (f_WordForm_signs : ClsFs K mg ["WordForm"] "signs") (c_read_form : DCal P w K mg base (L2.CX P w) 7 "read_form" F_read_form) : FnOk P w K mg base (L2.CX P w) 9 f fd ["spec", "rows", "cell"] (pureSp ⟨K, P, w, mg⟩ F__law_signs_right) :=
  fn_pX (k := 8) F sc__law_signs_right rfl fun cdv A outer s H E hr =>
  (dss_cons (ds_set (i := 3) sc__law_signs_right.nd rfl (by first | exact .inl rfl | exact .inr rfl) (de_f (df_slS (df_ix (df_ixN (pv 1) df_int) df_int) (dp_some df_int) dp_none)))
  (dss_cons (ds_set (i := 4) sc__law_signs_right.nd rfl (by first | exact .inl rfl | exact .inr rfl) (de_call c__law_pick hr (by decide) rfl (da_cons (df_var (pv 2)) (da_cons df_int (da_cons (df_len rfl B.b_len (da_cons (df_var (pv 3)) da_nil)) da_nil)))))
  (dss_cons (ds_set (i := 5) sc__law_signs_right.nd rfl (by first | exact .inl rfl | exact .inr rfl) (de_call c__law_pick hr (by decide) rfl (da_cons (df_var (pv 2)) (da_cons df_int (da_cons (df_add (df_len rfl B.b_len (da_cons (df_var (pv 3)) da_nil)) df_int) da_nil)))))
  (dss_cons (ds_set (i := 6) sc__law_signs_right.nd rfl (by first | exact .inl rfl | exact .inr rfl) (de_call c__law_pick hr (by decide) rfl (da_cons (df_var (pv 2)) (da_cons df_int (da_cons df_int da_nil)))))
  (dss_cons (ds_set (i := 7) sc__law_signs_right.nd rfl (by first | exact .inl rfl | exact .inr rfl) (de_f (df_add (df_add (df_slS (df_var (pv 3)) dp_none (dp_some (df_var (pv 5)))) (df_ix (df_e (de_call0 c__law_all_signs hr (by decide) rfl)) (df_add df_int (df_e (de_call c__law_pick hr (by decide) rfl (da_cons (df_var (pv 2)) (da_cons df_int (da_cons df_int da_nil)))))))) (df_slS (df_var (pv 3)) (dp_some (df_var (pv 5))) dp_none))))
  (dss_cons (ds_if (dt_cmpD cd_eqS (df_var (pv 6)) df_int) (dss_one (ds_set (i := 7) sc__law_signs_right.nd rfl (by first | exact .inl rfl | exact .inr rfl) (de_f (df_add (df_add (df_slS (df_var (pv 3)) dp_none (dp_some (df_var (pv 5)))) (df_ix (df_var (pv 3)) (df_var (pv 4)))) (df_slS (df_var (pv 3)) (dp_some (df_var (pv 5))) dp_none))))) dss_nil)
  (dss_cons (ds_if (dt_cmpD cd_eqS (df_var (pv 6)) df_int) (dss_one (ds_set (i := 7) sc__law_signs_right.nd rfl (by first | exact .inl rfl | exact .inr rfl) (de_f (df_add (df_add (df_add (df_slS (df_var (pv 3)) dp_none (dp_some (df_var (pv 4)))) (df_slS (df_var (pv 3)) (dp_some (df_add (df_var (pv 4)) df_int)) (dp_some (df_add (df_var (pv 4)) df_int)))) (df_ix (df_var (pv 3)) (df_var (pv 4)))) (df_slS (df_var (pv 3)) (dp_some (df_add (df_var (pv 4)) df_int)) dp_none))))) dss_nil)
  (dss_cons (ds_set (i := 8) sc__law_signs_right.nd rfl (by first | exact .inl rfl | exact .inr rfl) (de_f (df_join df_str (da_cons (df_e (de_cat (df_e (de_lst (da_cons df_str (da_cons (df_add df_str (df_var (pv 7))) da_nil)))) (df_e (de_lc (EN := E) (own := [("row", 9)]) rfl sc__law_signs_right.nd (di_list (df_e (de_slL (df_var (pv 1)) (dp_some df_int) dp_none))) (blkOk_by (N := ["spec", "rows", "cell", "own", "at", "there", "way", "signs", "text", "row"]) (sc := defScope s__law_signs_right) (own := [("row", 9)]) (by decide +kernel)) (fun _ _ _ _ _ => (dg_name sc__law_signs_right.nd (i := 9) rfl (by first | exact .inl rfl | exact .inr rfl))) (fun _ _ _ _ _ => dts_nil) (fun _ _ _ _ _ => (df_ix (df_var (pv 9)) df_int)))))) da_nil))))
  (dss_cons (ds_if (dt_not (dt_val (df_e (de_call c__law_rises hr (by decide) rfl (da_cons (df_var (pv 7)) da_nil))))) (dss_one (ds_ret (de_f (df_cmpD cd_eqS (df_e (de_call c__law_refused hr (by decide) rfl (da_cons (df_var (pv 8)) da_nil))) df_int)))) dss_nil)
  (dss_one (ds_ret (de_f (df_and (df_cmpD cd_eqS (df_e (de_call c__law_refused hr (by decide) rfl (da_cons (df_var (pv 8)) da_nil))) (df_neg df_int)) (df_one (df_cmpD cd_eqS (df_fld f_WordForm_signs (df_e (de_callX c_read_form hr (by decide) (pass_tk (takes_of rfl rfl rfl rfl)) rfl (da_cons (df_var (pv 8)) da_nil)))) (df_add (df_strMul df_str (df_callInt rfl B.b_int (da_cons (df_cmpD cd_inQ df_str (df_ix (df_var (pv 0)) df_int)) da_nil))) (df_var (pv 7))))))))))))))))))
noncomputable abbrev s__law_right : Stmt := topS 88
theorem sc__law_right : FnScope ["cell", "other", "spec", "rows", "text", "j", "row"] ["cell", "other"] (defScope s__law_right) := ⟨rfl, rfl, rfl, by decide +kernel, rfl, by decide +kernel, by decide +kernel⟩
noncomputable def F__law_right : List D → Res Cell := runs 2 5 (sSeq (sSet 2 (gCall F__law_any_spec (aCons (gVar 0) (aCons (gVar 1) (aCons (mOpt Cell.toD (gCall F__law_pick (aCons (gVar 0) (aCons (gC (.int 97)) (aCons (gC (.int 3)) aNil))))) aNil)))))
  (sSeq (sSet 3 (gCall F__law_word_rows (aCons (gVar 2) (aCons (mOpt Cell.toD (gCall F__law_pick (aCons (gVar 1) (aCons (gC (.int 94)) (aCons (gC (.int 128)) aNil))))) aNil))))
  (sSeq (sSet 4 (mMap Cell.fz (gBM isStrD hJoin (gC (.str " ")) (aCons (mOpt Cell.toD (gComp (mOpt hLst (gVar 3)) (gtName 6) mYes (mOpt2 hIx (gVar 6) (gC (.int 0))) [6])) aNil))))
  (sSeq (sIf (mOpt2 hNeS (mOpt Cell.toD (gCall F__law_refused (aCons (gVar 4) aNil))) (mOpt hNeg (gC (.int 1)))) (sRet (mMap Cell.fz (gC (.bl false)))) sNil)
  (sSeq (sFor (mOpt hRng1 (aCons (gC (.int 8)) aNil)) (gtName 5) (sIf (mNot (mOpt hBl (mOpt Cell.toD (gCall F__law_one_right (aCons (gVar 3) (aCons (gVar 1) (aCons (mOpt2 hAdd (gC (.int 300)) (mOpt2 hMul (gC (.int 30)) (gVar 5))) aNil))))))) (sRet (mMap Cell.fz (gC (.bl false)))) sNil))
  (sSeq (sIf (mAnd (mOpt2 hEqS (mOpt2 hIx (gVar 2) (gC (.int 0))) (gC (.str "word"))) (mAnd (mOpt2 hEqS (mOpt2 hIx (mOpt2 hIx (gIxN 3 (gC (.int 1))) (gC (.int 0))) (gC (.int 0))) (gC (.str "="))) (mNot (mOpt hBl (mOpt Cell.toD (gCall F__law_signs_right (aCons (gVar 2) (aCons (gVar 3) (aCons (gVar 0) aNil))))))))) (sRet (mMap Cell.fz (gC (.bl false)))) sNil)
  (sRet (mMap Cell.fz (mMap D.bl (mOpt2 hEqS (mOpt Cell.toD (gCall F__law_refused (aCons (gVar 4) aNil))) (mOpt hNeg (gC (.int 1)))))))))))))
theorem d__law_right {P : Program} {w : World} {K : Fg} {mg : Str → Option Value} {base : Heap} {f : Addr} {fd : FuncData} (F : FunA K "_law_right" "_law_right" s__law_right f fd) (B : Bn mg) (c__law_any_spec : DCal P w K mg base CX0 4 "_law_any_spec" F__law_any_spec) (c__law_pick : DCal P w K mg base CX0 1 "_law_pick" F__law_pick) (c__law_word_rows : DCal P w K mg base CX0 5 "_law_word_rows" F__law_word_rows) (c__law_refused : DCal P w K mg base CX0 8 "_law_refused" F__law_refused) (c__law_one_right : DCal P w K mg base CX0 9 "_law_one_right" F__law_one_right) (c__law_signs_right : DCal P w K mg base (L2.CX P w) 9 "_law_signs_right" F__law_signs_right) : FnOk P w K mg base (L2.CX P w) 10 f fd ["cell", "other"] (pureSp ⟨K, P, w, mg⟩ F__law_right) :=
  fn_pX (k := 9) F sc__law_right rfl fun cdv A outer s H E hr =>
  (dss_cons (ds_set (i := 2) sc__law_right.nd rfl (by first | exact .inl rfl | exact .inr rfl) (de_call c__law_any_spec hr (by decide) rfl (da_cons (df_var (pv 0)) (da_cons (df_var (pv 1)) (da_cons (df_e (de_call c__law_pick hr (by decide) rfl (da_cons (df_var (pv 0)) (da_cons df_int (da_cons df_int da_nil))))) da_nil)))))
  (dss_cons (ds_set (i := 3) sc__law_right.nd rfl (by first | exact .inl rfl | exact .inr rfl) (de_call c__law_word_rows hr (by decide) rfl (da_cons (df_var (pv 2)) (da_cons (df_e (de_call c__law_pick hr (by decide) rfl (da_cons (df_var (pv 1)) (da_cons df_int (da_cons df_int da_nil))))) da_nil))))
  (dss_cons (ds_set (i := 4) sc__law_right.nd rfl (by first | exact .inl rfl | exact .inr rfl) (de_f (df_join df_str (da_cons (df_e (de_lc (EN := E) (own := [("row", 6)]) rfl sc__law_right.nd (di_list (df_var (pv 3))) (blkOk_by (N := ["cell", "other", "spec", "rows", "text", "j", "row"]) (sc := defScope s__law_right) (own := [("row", 6)]) (by decide +kernel)) (fun _ _ _ _ _ => (dg_name sc__law_right.nd (i := 6) rfl (by first | exact .inl rfl | exact .inr rfl))) (fun _ _ _ _ _ => dts_nil) (fun _ _ _ _ _ => (df_ix (df_var (pv 6)) df_int)))) da_nil))))
  (dss_cons (ds_if (dt_cmpD cd_neS (df_e (de_call c__law_refused hr (by decide) rfl (da_cons (df_var (pv 4)) da_nil))) (df_neg df_int)) (dss_one (ds_ret (de_f df_bl))) dss_nil)
  (dss_cons (ds_for (passes_of rfl) rfl (di_range1 rfl B.b_range (da_cons df_int da_nil)) (dg_name sc__law_right.nd (i := 5) rfl (by first | exact .inl rfl | exact .inr rfl)) (dss_one (ds_if (dt_not (dt_val (df_e (de_call c__law_one_right hr (by decide) rfl (da_cons (df_var (pv 3)) (da_cons (df_var (pv 1)) (da_cons (df_add df_int (df_mul df_int (df_var (pv 5)))) da_nil))))))) (dss_one (ds_ret (de_f df_bl))) dss_nil)))
  (dss_cons (ds_if (dt_w (dw_and (dt_cmpD cd_eqS (df_ix (df_var (pv 2)) df_int) df_str) (dw_and (dt_cmpD cd_eqS (df_ix (df_ix (df_ixN (pv 3) df_int) df_int) df_int) df_str) (dw_and1 (dt_not (dt_val (df_e (de_callX c__law_signs_right hr (by decide) (pass_tk (takes_of rfl rfl rfl rfl)) rfl (da_cons (df_var (pv 2)) (da_cons (df_var (pv 3)) (da_cons (df_var (pv 0)) da_nil))))))))))) (dss_one (ds_ret (de_f df_bl))) dss_nil)
  (dss_one (ds_ret (de_f (df_cmpD cd_eqS (df_e (de_call c__law_refused hr (by decide) rfl (da_cons (df_var (pv 4)) da_nil))) (df_neg df_int)))))))))))
noncomputable abbrev s__law_cell_at : Stmt := topS 62
theorem sc__law_cell_at : FnScope ["script", "k"] ["script", "k"] (defScope s__law_cell_at) := ⟨rfl, rfl, rfl, by decide +kernel, rfl, by decide +kernel, by decide +kernel⟩
noncomputable def F__law_cell_at : List D → Res Cell := runs 2 0 (sSeq (sIf (mOpt2 hLt (gVar 1) (gLenN 0)) (sRet (mMap Cell.fz (gIxN 0 (gVar 1)))) sNil)
  (sRet (mMap Cell.fz (gC (.int 0)))))
theorem d__law_cell_at {P : Program} {w : World} {K : Fg} {mg : Str → Option Value} {base : Heap} {f : Addr} {fd : FuncData} (F : FunA K "_law_cell_at" "_law_cell_at" s__law_cell_at f fd) (B : Bn mg) : FnOk P w K mg base CX0 1 f fd ["script", "k"] (pureSp ⟨K, P, w, mg⟩ F__law_cell_at) :=
  fn_p0 (k := 0) F sc__law_cell_at rfl fun cdv A outer s H E hr =>
  (dss_cons (ds_if (dt_cmpD cd_lt (df_var (pv 1)) (df_lenN (pv 0) rfl B.b_len)) (dss_one (ds_ret (de_f (df_ixN (pv 0) (df_var (pv 1)))))) dss_nil)
  (dss_one (ds_ret (de_f df_int))))
noncomputable abbrev s_law : Stmt := topS 89
theorem sc_law : FnScope ["script", "k"] ["script"] (defScope s_law) := ⟨rfl, rfl, rfl, by decide +kernel, rfl, by decide +kernel, by decide +kernel⟩
noncomputable def F_law : List D → Res Cell := runs 1 1 (sSeq (sFor (mOpt hRng1 (aCons (mOpt hMax2 (aCons (gC (.int 1)) (aCons (mOpt hMin2 (aCons (gC (.int 6)) (aCons (mOpt2 hFdiv (gLenN 0) (gC (.int 2))) aNil))) aNil))) aNil)) (gtName 1) (sIf (mNot (mOpt hBl (mOpt Cell.toD (gCall F__law_right (aCons (mOpt Cell.toD (gCall F__law_cell_at (aCons (gVar 0) (aCons (mOpt2 hMul (gC (.int 2)) (gVar 1)) aNil)))) (aCons (mOpt Cell.toD (gCall F__law_cell_at (aCons (gVar 0) (aCons (mOpt2 hAdd (mOpt2 hMul (gC (.int 2)) (gVar 1)) (gC (.int 1))) aNil)))) aNil)))))) (sRet (mMap Cell.fz (gC (.bl false)))) sNil))
  (sRet (mMap Cell.fz (gC (.bl true)))))
theorem d_law {P : Program} {w : World} {K : Fg} {mg : Str → Option Value} {base : Heap} {f : Addr} {fd : FuncData} (F : FunA K "law" "law" s_law f fd) (B : Bn mg) (c__law_right : DCal P w K mg base (L2.CX P w) 10 "_law_right" F__law_right) (c__law_cell_at : DCal P w K mg base CX0 1 "_law_cell_at" F__law_cell_at) : FnOk P w K mg base (L2.CX P w) 11 f fd ["script"] (pureSp ⟨K, P, w, mg⟩ F_law) :=
  fn_pX (k := 10) F sc_law rfl fun cdv A outer s H E hr =>
  (dss_cons (ds_for (passes_of rfl) rfl (di_range1 rfl B.b_range (da_cons (df_max2 rfl rfl B.b_max (da_cons df_int (da_cons (df_min2 rfl rfl B.b_min (da_cons df_int (da_cons (df_fdiv (df_lenN (pv 0) rfl B.b_len) df_int) da_nil))) da_nil))) da_nil)) (dg_name sc_law.nd (i := 1) rfl (by first | exact .inl rfl | exact .inr rfl)) (dss_one (ds_if (dt_not (dt_val (df_e (de_callX c__law_right hr (by decide) (pass_tk (takes_of rfl rfl rfl rfl)) rfl (da_cons (df_e (de_call c__law_cell_at hr (by decide) rfl (da_cons (df_var (pv 0)) (da_cons (df_mul df_int (df_var (pv 1))) da_nil)))) (da_cons (df_e (de_call c__law_cell_at hr (by decide) rfl (da_cons (df_var (pv 0)) (da_cons (df_add (df_mul df_int (df_var (pv 1))) df_int) da_nil)))) da_nil)))))) (dss_one (ds_ret (de_f df_bl))) dss_nil)))
  (dss_one (ds_ret (de_f df_bl))))
end DL
namespace DL
open PySem PySem.Spec PyProof.Rows L2
theorem law_binds {K : Fg} {f : Addr} {fd : FuncData} (h : FnF K "law" "law" s_law f) (F : FunA K "law" "law" s_law f fd) (b : Binds K fd ["script"] []) (s : Shared) (u : Value) : BindsTo s fd ⟨[u], []⟩ [("script", u)] := by
  obtain ⟨oc, od, kV, doc, pm, an, cdv, ct, osl, l, c⟩ := h.ex
  obtain ⟨_, _, _, _, _, _, _, _, _, _, rfl, l2, _⟩ := F.ex
  rw [l] at l2
  cases l2
  exact .of_eq rfl
noncomputable def spLaw (K : Fg) : Sp := fun vs H Q _ => ∃ (a : Addr) (ns : List Int), vs = [.ref a] ∧ SqL K H a (ns.map V.int) ∧ ns.length ≤ 63 ∧ ∀ H', Q (.bl true) H'
theorem walk50 {l : PySem.W.OpenLaw} {q : Program} {loose : List Str} {XP : (Str → Option Value) → Heap → Prop} {YP : World → Heap → Prop} {d : DefRec} {K : Params → Fg} (hn : l.most = some 63) (hdf : d.params.defaults = [])
    (hY : ∀ (w : World) (h : Heap), YP w h → (K w.params).In h)
    (F : ∀ (w : World) (mg : Str → Option Value) (fa : Addr) (h : Heap), (K w.params).In h → h.Ns mainGlobals mg → mg d.name = some (.ref fa) →
      ∃ fd : FuncData, (∀ (s : Shared) (u : Value), BindsTo s fd ⟨[u], []⟩ [("script", u)]) ∧ ∀ base : Heap, (K w.params).In base → base.Ns mainGlobals mg → FnOk l.prog w (K w.params) mg base (L2.CX l.prog w) 20 fa fd ["script"] (spLaw (K w.params))) :
    PySem.W.WalkO q loose XP YP l.row.toRowW d [] (fun f vs => PySem.call f vs) :=
  L2.walk_of (n := 63) (k := 20) (x := "script") (CX := fun w => L2.CX l.prog w) (sp := fun w => spLaw (K w.params)) hn (by decide) hdf ⟨rfl, by decide, by decide⟩ hY F (fun _ _ a ns hl _ hS => ⟨a, ns, rfl, hS, hl, fun _ => rfl⟩) fun _ _ _ _ _ z => by
    obtain ⟨_, _, _, _, _, _, _, _, _, _, _, _, q⟩ := z
    exact q
noncomputable abbrev s_NoForm_init : Stmt := inClass (topS 9) 0
theorem sc_NoForm_init : FnScope ["self", "at"] ["self", "at"] (defScope s_NoForm_init) := ⟨rfl, rfl, rfl, by decide +kernel, rfl, by decide +kernel, by decide +kernel⟩
theorem exc_NoForm {P : Program} {w : World} {K : Fg} {mg : Str → Option Value} {base : Heap} (h : ExK K mg "NoForm" "PadError" "at" "NoForm.__init__" s_NoForm_init) : DExc P w K mg base 1 "NoForm" "at" := by
  obtain ⟨C, f, PC, mc, mC, mP, oc, hi, ht, hF, hno, rd, vV⟩ := h.ex
  obtain ⟨fd, F, b⟩ := hF.fun (ps := ["self", "at"]) (fun _ _ _ _ _ _ us hl => match us, hl with | [_, _], _ => rfl)
  refine ⟨C, f, fd, ["self", "at"], mC, oc, hi, ht, ?_, b⟩
  obtain ⟨oc', od, dV, kV, doc, pm, an, cdv, ct, osl, rfl, lk, hcd, _⟩ := F.ex
  refine fn_of (k := 0) lk hcd sc_NoForm_init (fun vs H Q E h => ?_) fun A outer s H vs Q E hr h => ?_
  · obtain ⟨a, v, rfl, _⟩ := h; rfl
  · obtain ⟨a, v, rfl, ha, k⟩ := h
    refine ⟨_, pss_cons (ps_expr (pe_baseInit rfl mP rd vV (pa_cons (pv 0) (pa_cons pe_str pa_nil))) rfl) (pss_one (ps_ost (pv 0) (pv 1))), ?_⟩
    exact exc1_sem (D := { nx := fun _ H' => Q .non H', rt := Q }) oc hno ha fun dx h1 h2 => k dx h1 h2
theorem b_is_text : BindA "is_text" "is_text" s_is_text ["thing"] := fun _ _ _ _ _ _ us hl => match us, hl with | [_], _ => rfl
theorem b_Reading_init : BindA "__init__" "Reading.__init__" s_Reading_init ["self", "told"] := fun _ _ _ _ _ _ us hl => match us, hl with | [_, _], _ => rfl
theorem b_Reading_taken : BindA "taken" "Reading.taken" s_Reading_taken ["self"] := fun _ _ _ _ _ _ us hl => match us, hl with | [_], _ => rfl
theorem b_Reading_one_of : BindA "one_of" "Reading.one_of" s_Reading_one_of ["self", "some"] := fun _ _ _ _ _ _ us hl => match us, hl with | [_, _], _ => rfl
theorem b_Reading_read_whole : BindA "read_whole" "Reading.read_whole" s_Reading_read_whole ["self", "low", "high"] := fun _ _ _ _ _ _ us hl => match us, hl with | [_, _, _], _ => rfl
theorem b_Reading_begins : BindA "begins" "Reading.begins" s_Reading_begins ["self", "word"] := fun _ _ _ _ _ _ us hl => match us, hl with | [_, _], _ => rfl
theorem b_Reading_read_sign : BindA "read_sign" "Reading.read_sign" s_Reading_read_sign ["self"] := fun _ _ _ _ _ _ us hl => match us, hl with | [_], _ => rfl
theorem b_read_tail : BindA "read_tail" "read_tail" s_read_tail ["reading", "side", "sides"] := fun _ _ _ _ _ _ us hl => match us, hl with | [_, _, _], _ => rfl
theorem b_Form_init : BindA "__init__" "Form.__init__" s_Form_init ["self", "width", "fill", "side", "strict"] := fun _ _ _ _ _ _ us hl => match us, hl with | [_, _, _, _, _], _ => rfl
theorem b_NumberForm_init : BindD "__init__" "NumberForm.__init__" s_NumberForm_init ["self", "figures", "places", "base", "sign", "size", "mark", "point", "way", "width", "fill", "side", "strict"] 10 := fun T kV doc pm an cdv ct us its hl h2 => match us, hl, its, h2 with | [_, _, _, _, _, _, _, _, _, _, _, _, _], _, [_, _, _, _, _, _, _, _, _, _], _ => ⟨_, rfl, rfl⟩
theorem b_allow_strict : BindA "allow_strict" "allow_strict" s_allow_strict ["reading", "strict", "least", "width"] := fun _ _ _ _ _ _ us hl => match us, hl with | [_, _, _, _], _ => rfl
theorem b_ends_of : BindA "ends_of" "ends_of" s_ends_of ["style", "below"] := fun _ _ _ _ _ _ us hl => match us, hl with | [_, _], _ => rfl
theorem b_power_of : BindA "power_of" "power_of" s_power_of ["base", "times"] := fun _ _ _ _ _ _ us hl => match us, hl with | [_, _], _ => rfl
theorem b_marks_in : BindA "marks_in" "marks_in" s_marks_in ["many", "size"] := fun _ _ _ _ _ _ us hl => match us, hl with | [_, _], _ => rfl
theorem b_grouped : BindA "grouped" "grouped" s_grouped ["text", "size", "mark"] := fun _ _ _ _ _ _ us hl => match us, hl with | [_, _, _], _ => rfl
theorem b_figures_of : BindA "figures_of" "figures_of" s_figures_of ["number", "base"] := fun _ _ _ _ _ _ us hl => match us, hl with | [_, _], _ => rfl
theorem b_body_of : BindA "body_of" "body_of" s_body_of ["number", "base", "places", "point", "size", "mark"] := fun _ _ _ _ _ _ us hl => match us, hl with | [_, _, _, _, _, _], _ => rfl
theorem b_NumberForm_lead_and_rest : BindA "lead_and_rest" "NumberForm.lead_and_rest" s_NumberForm_lead_and_rest ["self", "steps"] := fun _ _ _ _ _ _ us hl => match us, hl with | [_, _], _ => rfl
theorem b_is_whole : BindA "is_whole" "is_whole" s_is_whole ["thing"] := fun _ _ _ _ _ _ us hl => match us, hl with | [_], _ => rfl
theorem b_divisor_of : BindA "divisor_of" "divisor_of" s_divisor_of ["one", "other"] := fun _ _ _ _ _ _ us hl => match us, hl with | [_, _], _ => rfl
theorem b_is_fraction : BindA "is_fraction" "is_fraction" s_is_fraction ["thing"] := fun _ _ _ _ _ _ us hl => match us, hl with | [_], _ => rfl
theorem b_gridded : BindA "gridded" "gridded" s_gridded ["value", "base", "places", "way"] := fun _ _ _ _ _ _ us hl => match us, hl with | [_, _, _, _], _ => rfl
theorem b_NumberForm_steps_of : BindA "steps_of" "NumberForm.steps_of" s_NumberForm_steps_of ["self", "value"] := fun _ _ _ _ _ _ us hl => match us, hl with | [_, _], _ => rfl
theorem b_NumberForm_core : BindA "core" "NumberForm.core" s_NumberForm_core ["self", "value"] := fun _ _ _ _ _ _ us hl => match us, hl with | [_, _], _ => rfl
theorem b_read_number_form : BindA "read_number_form" "read_number_form" s_read_number_form ["reading"] := fun _ _ _ _ _ _ us hl => match us, hl with | [_], _ => rfl
theorem b_Reading_read_signs : BindA "read_signs" "Reading.read_signs" s_Reading_read_signs ["self"] := fun _ _ _ _ _ _ us hl => match us, hl with | [_], _ => rfl
theorem b_WordForm_init : BindD "__init__" "WordForm.__init__" s_WordForm_init ["self", "signs", "least", "most", "width", "fill", "side", "strict"] 4 := fun T kV doc pm an cdv ct us its hl h2 => match us, hl, its, h2 with | [_, _, _, _, _, _, _, _], _, [_, _, _, _], _ => ⟨_, rfl, rfl⟩
theorem b_read_word_form : BindA "read_word_form" "read_word_form" s_read_word_form ["reading"] := fun _ _ _ _ _ _ us hl => match us, hl with | [_], _ => rfl
theorem b_ChoiceForm_init : BindD "__init__" "ChoiceForm.__init__" s_ChoiceForm_init ["self", "names", "width", "fill", "side", "strict"] 4 := fun T kV doc pm an cdv ct us its hl h2 => match us, hl, its, h2 with | [_, _, _, _, _, _], _, [_, _, _, _], _ => ⟨_, rfl, rfl⟩
theorem b_read_choice_form : BindA "read_choice_form" "read_choice_form" s_read_choice_form ["reading"] := fun _ _ _ _ _ _ us hl => match us, hl with | [_], _ => rfl
theorem b_read_form : BindA "read_form" "read_form" s_read_form ["text"] := fun _ _ _ _ _ _ us hl => match us, hl with | [_], _ => rfl
theorem b__law_whole : BindA "_law_whole" "_law_whole" s__law_whole ["thing"] := fun _ _ _ _ _ _ us hl => match us, hl with | [_], _ => rfl
theorem b__law_pick : BindA "_law_pick" "_law_pick" s__law_pick ["cell", "salt", "many"] := fun _ _ _ _ _ _ us hl => match us, hl with | [_, _, _], _ => rfl
theorem b__law_all_signs : BindA "_law_all_signs" "_law_all_signs" s__law_all_signs [] := fun _ _ _ _ _ _ us hl => match us, hl with | [], _ => rfl
theorem b__law_drawn_sign : BindA "_law_drawn_sign" "_law_drawn_sign" s__law_drawn_sign ["cell", "salt"] := fun _ _ _ _ _ _ us hl => match us, hl with | [_, _], _ => rfl
theorem b__law_number_spec : BindA "_law_number_spec" "_law_number_spec" s__law_number_spec ["cell", "other", "small"] := fun _ _ _ _ _ _ us hl => match us, hl with | [_, _, _], _ => rfl
theorem b__law_word_spec : BindA "_law_word_spec" "_law_word_spec" s__law_word_spec ["cell", "other", "small"] := fun _ _ _ _ _ _ us hl => match us, hl with | [_, _, _], _ => rfl
theorem b__law_sets : BindA "_law_sets" "_law_sets" s__law_sets [] := fun _ _ _ _ _ _ us hl => match us, hl with | [], _ => rfl
theorem b__law_near_names : BindA "_law_near_names" "_law_near_names" s__law_near_names ["cell", "many"] := fun _ _ _ _ _ _ us hl => match us, hl with | [_, _], _ => rfl
theorem b__law_choice_spec : BindA "_law_choice_spec" "_law_choice_spec" s__law_choice_spec ["cell", "other", "small"] := fun _ _ _ _ _ _ us hl => match us, hl with | [_, _, _], _ => rfl
theorem b__law_shortest : BindA "_law_shortest" "_law_shortest" s__law_shortest ["spec"] := fun _ _ _ _ _ _ us hl => match us, hl with | [_], _ => rfl
theorem b__law_any_spec : BindA "_law_any_spec" "_law_any_spec" s__law_any_spec ["cell", "other", "sort"] := fun _ _ _ _ _ _ us hl => match us, hl with | [_, _, _], _ => rfl
theorem b__law_signs_word : BindA "_law_signs_word" "_law_signs_word" s__law_signs_word ["signs", "bits"] := fun _ _ _ _ _ _ us hl => match us, hl with | [_, _], _ => rfl
theorem b__law_sign_word : BindA "_law_sign_word" "_law_sign_word" s__law_sign_word ["sign"] := fun _ _ _ _ _ _ us hl => match us, hl with | [_], _ => rfl
theorem b__law_first_rows : BindA "_law_first_rows" "_law_first_rows" s__law_first_rows ["spec", "bits"] := fun _ _ _ _ _ _ us hl => match us, hl with | [_, _], _ => rfl
theorem b__law_word_rows : BindA "_law_word_rows" "_law_word_rows" s__law_word_rows ["spec", "bits"] := fun _ _ _ _ _ _ us hl => match us, hl with | [_, _], _ => rfl
theorem b__law_refused : BindA "_law_refused" "_law_refused" s__law_refused ["thing"] := fun _ _ _ _ _ _ us hl => match us, hl with | [_], _ => rfl
theorem b__law_keys : BindA "_law_keys" "_law_keys" s__law_keys ["kind"] := fun _ _ _ _ _ _ us hl => match us, hl with | [_], _ => rfl
theorem b__law_lists : BindA "_law_lists" "_law_lists" s__law_lists ["kind"] := fun _ _ _ _ _ _ us hl => match us, hl with | [_], _ => rfl
theorem b__law_language : BindA "_law_language" "_law_language" s__law_language [] := fun _ _ _ _ _ _ us hl => match us, hl with | [], _ => rfl
theorem b__law_new_word : BindA "_law_new_word" "_law_new_word" s__law_new_word ["own", "cell", "salt"] := fun _ _ _ _ _ _ us hl => match us, hl with | [_, _, _], _ => rfl
theorem b__law_is_figures : BindA "_law_is_figures" "_law_is_figures" s__law_is_figures ["word"] := fun _ _ _ _ _ _ us hl => match us, hl with | [_], _ => rfl
theorem b__law_rises : BindA "_law_rises" "_law_rises" s__law_rises ["signs"] := fun _ _ _ _ _ _ us hl => match us, hl with | [_], _ => rfl
theorem b__law_may_stand : BindA "_law_may_stand" "_law_may_stand" s__law_may_stand ["rows", "at", "word"] := fun _ _ _ _ _ _ us hl => match us, hl with | [_, _, _], _ => rfl
theorem b__law_one_right : BindA "_law_one_right" "_law_one_right" s__law_one_right ["rows", "cell", "salt"] := fun _ _ _ _ _ _ us hl => match us, hl with | [_, _, _], _ => rfl
theorem b__law_signs_right : BindA "_law_signs_right" "_law_signs_right" s__law_signs_right ["spec", "rows", "cell"] := fun _ _ _ _ _ _ us hl => match us, hl with | [_, _, _], _ => rfl
theorem b__law_right : BindA "_law_right" "_law_right" s__law_right ["cell", "other"] := fun _ _ _ _ _ _ us hl => match us, hl with | [_, _], _ => rfl
theorem b__law_cell_at : BindA "_law_cell_at" "_law_cell_at" s__law_cell_at ["script", "k"] := fun _ _ _ _ _ _ us hl => match us, hl with | [_, _], _ => rfl
theorem b_law : BindA "law" "law" s_law ["script"] := fun _ _ _ _ _ _ us hl => match us, hl with | [_], _ => rfl
theorem fin_law {P : Program} {w : World} {K : Fg} {mg : Str → Option Value} {base : Heap}
    (t_is_text : ∃ f, mg "is_text" = some (.ref f) ∧ FnF K "is_text" "is_text" s_is_text f)
    (t_read_tail : ∃ f, mg "read_tail" = some (.ref f) ∧ FnF K "read_tail" "read_tail" s_read_tail f)
    (t_allow_strict : ∃ f, mg "allow_strict" = some (.ref f) ∧ FnF K "allow_strict" "allow_strict" s_allow_strict f)
    (t_ends_of : ∃ f, mg "ends_of" = some (.ref f) ∧ FnF K "ends_of" "ends_of" s_ends_of f)
    (t_power_of : ∃ f, mg "power_of" = some (.ref f) ∧ FnF K "power_of" "power_of" s_power_of f)
    (t_marks_in : ∃ f, mg "marks_in" = some (.ref f) ∧ FnF K "marks_in" "marks_in" s_marks_in f)
    (t_grouped : ∃ f, mg "grouped" = some (.ref f) ∧ FnF K "grouped" "grouped" s_grouped f)
    (t_figures_of : ∃ f, mg "figures_of" = some (.ref f) ∧ FnF K "figures_of" "figures_of" s_figures_of f)
    (t_body_of : ∃ f, mg "body_of" = some (.ref f) ∧ FnF K "body_of" "body_of" s_body_of f)
    (t_is_whole : ∃ f, mg "is_whole" = some (.ref f) ∧ FnF K "is_whole" "is_whole" s_is_whole f)
    (t_divisor_of : ∃ f, mg "divisor_of" = some (.ref f) ∧ FnF K "divisor_of" "divisor_of" s_divisor_of f)
    (t_is_fraction : ∃ f, mg "is_fraction" = some (.ref f) ∧ FnF K "is_fraction" "is_fraction" s_is_fraction f)
    (t_gridded : ∃ f, mg "gridded" = some (.ref f) ∧ FnF K "gridded" "gridded" s_gridded f)
    (t_read_number_form : ∃ f, mg "read_number_form" = some (.ref f) ∧ FnF K "read_number_form" "read_number_form" s_read_number_form f)
    (t_read_word_form : ∃ f, mg "read_word_form" = some (.ref f) ∧ FnF K "read_word_form" "read_word_form" s_read_word_form f)
    (t_read_choice_form : ∃ f, mg "read_choice_form" = some (.ref f) ∧ FnF K "read_choice_form" "read_choice_form" s_read_choice_form f)
    (t_read_form : ∃ f, mg "read_form" = some (.ref f) ∧ FnF K "read_form" "read_form" s_read_form f)
    (t__law_whole : ∃ f, mg "_law_whole" = some (.ref f) ∧ FnF K "_law_whole" "_law_whole" s__law_whole f)
    (t__law_pick : ∃ f, mg "_law_pick" = some (.ref f) ∧ FnF K "_law_pick" "_law_pick" s__law_pick f)
    (t__law_all_signs : ∃ f, mg "_law_all_signs" = some (.ref f) ∧ FnF K "_law_all_signs" "_law_all_signs" s__law_all_signs f)
    (t__law_drawn_sign : ∃ f, mg "_law_drawn_sign" = some (.ref f) ∧ FnF K "_law_drawn_sign" "_law_drawn_sign" s__law_drawn_sign f)
    (t__law_number_spec : ∃ f, mg "_law_number_spec" = some (.ref f) ∧ FnF K "_law_number_spec" "_law_number_spec" s__law_number_spec f)
    (t__law_word_spec : ∃ f, mg "_law_word_spec" = some (.ref f) ∧ FnF K "_law_word_spec" "_law_word_spec" s__law_word_spec f)
    (t__law_sets : ∃ f, mg "_law_sets" = some (.ref f) ∧ FnF K "_law_sets" "_law_sets" s__law_sets f)
    (t__law_near_names : ∃ f, mg "_law_near_names" = some (.ref f) ∧ FnF K "_law_near_names" "_law_near_names" s__law_near_names f)
    (t__law_choice_spec : ∃ f, mg "_law_choice_spec" = some (.ref f) ∧ FnF K "_law_choice_spec" "_law_choice_spec" s__law_choice_spec f)
    (t__law_shortest : ∃ f, mg "_law_shortest" = some (.ref f) ∧ FnF K "_law_shortest" "_law_shortest" s__law_shortest f)
    (t__law_any_spec : ∃ f, mg "_law_any_spec" = some (.ref f) ∧ FnF K "_law_any_spec" "_law_any_spec" s__law_any_spec f)
    (t__law_signs_word : ∃ f, mg "_law_signs_word" = some (.ref f) ∧ FnF K "_law_signs_word" "_law_signs_word" s__law_signs_word f)
    (t__law_sign_word : ∃ f, mg "_law_sign_word" = some (.ref f) ∧ FnF K "_law_sign_word" "_law_sign_word" s__law_sign_word f)
    (t__law_first_rows : ∃ f, mg "_law_first_rows" = some (.ref f) ∧ FnF K "_law_first_rows" "_law_first_rows" s__law_first_rows f)
    (t__law_word_rows : ∃ f, mg "_law_word_rows" = some (.ref f) ∧ FnF K "_law_word_rows" "_law_word_rows" s__law_word_rows f)
    (t__law_refused : ∃ f, mg "_law_refused" = some (.ref f) ∧ FnF K "_law_refused" "_law_refused" s__law_refused f)
    (t__law_keys : ∃ f, mg "_law_keys" = some (.ref f) ∧ FnF K "_law_keys" "_law_keys" s__law_keys f)
    (t__law_lists : ∃ f, mg "_law_lists" = some (.ref f) ∧ FnF K "_law_lists" "_law_lists" s__law_lists f)
    (t__law_language : ∃ f, mg "_law_language" = some (.ref f) ∧ FnF K "_law_language" "_law_language" s__law_language f)
    (t__law_new_word : ∃ f, mg "_law_new_word" = some (.ref f) ∧ FnF K "_law_new_word" "_law_new_word" s__law_new_word f)
    (t__law_is_figures : ∃ f, mg "_law_is_figures" = some (.ref f) ∧ FnF K "_law_is_figures" "_law_is_figures" s__law_is_figures f)
    (t__law_rises : ∃ f, mg "_law_rises" = some (.ref f) ∧ FnF K "_law_rises" "_law_rises" s__law_rises f)
    (t__law_may_stand : ∃ f, mg "_law_may_stand" = some (.ref f) ∧ FnF K "_law_may_stand" "_law_may_stand" s__law_may_stand f)
    (t__law_one_right : ∃ f, mg "_law_one_right" = some (.ref f) ∧ FnF K "_law_one_right" "_law_one_right" s__law_one_right f)
    (t__law_signs_right : ∃ f, mg "_law_signs_right" = some (.ref f) ∧ FnF K "_law_signs_right" "_law_signs_right" s__law_signs_right f)
    (t__law_right : ∃ f, mg "_law_right" = some (.ref f) ∧ FnF K "_law_right" "_law_right" s__law_right f)
    (t__law_cell_at : ∃ f, mg "_law_cell_at" = some (.ref f) ∧ FnF K "_law_cell_at" "_law_cell_at" s__law_cell_at f)
    (t_law : ∃ f, mg "law" = some (.ref f) ∧ FnF K "law" "law" s_law f)
    (k_Reading : ∃ C, ClK K mg "Reading" C ∧ PySem.W.findIn K (.ref C) "told" = some none ∧ PySem.W.findIn K (.ref C) "at" = some none ∧ (∃ f, Mk K C f ∧ FnF K "__init__" "Reading.__init__" s_Reading_init f) ∧ (∃ f, MtK K C "taken" f ∧ FnF K "taken" "Reading.taken" s_Reading_taken f) ∧ (∃ f, MtK K C "one_of" f ∧ FnF K "one_of" "Reading.one_of" s_Reading_one_of f) ∧ (∃ f, MtK K C "read_whole" f ∧ FnF K "read_whole" "Reading.read_whole" s_Reading_read_whole f) ∧ (∃ f, MtK K C "begins" f ∧ FnF K "begins" "Reading.begins" s_Reading_begins f) ∧ (∃ f, MtK K C "read_sign" f ∧ FnF K "read_sign" "Reading.read_sign" s_Reading_read_sign f) ∧ (∃ f, MtK K C "read_signs" f ∧ FnF K "read_signs" "Reading.read_signs" s_Reading_read_signs f))
    (k_NumberForm : ∃ C, ClK K mg "NumberForm" C ∧ PySem.W.findIn K (.ref C) "width" = some none ∧ PySem.W.findIn K (.ref C) "fill" = some none ∧ PySem.W.findIn K (.ref C) "side" = some none ∧ PySem.W.findIn K (.ref C) "strict" = some none ∧ PySem.W.findIn K (.ref C) "figures" = some none ∧ PySem.W.findIn K (.ref C) "places" = some none ∧ PySem.W.findIn K (.ref C) "base" = some none ∧ PySem.W.findIn K (.ref C) "sign" = some none ∧ PySem.W.findIn K (.ref C) "size" = some none ∧ PySem.W.findIn K (.ref C) "mark" = some none ∧ PySem.W.findIn K (.ref C) "point" = some none ∧ PySem.W.findIn K (.ref C) "way" = some none ∧ (∃ f, Mk K C f ∧ FnD K "__init__" "NumberForm.__init__" s_NumberForm_init f 10) ∧ (∃ f, MtK K C "lead_and_rest" f ∧ FnF K "lead_and_rest" "NumberForm.lead_and_rest" s_NumberForm_lead_and_rest f) ∧ (∃ f, MtK K C "steps_of" f ∧ FnF K "steps_of" "NumberForm.steps_of" s_NumberForm_steps_of f) ∧ (∃ f, MtK K C "core" f ∧ FnF K "core" "NumberForm.core" s_NumberForm_core f))
    (k_WordForm : ∃ C, ClK K mg "WordForm" C ∧ PySem.W.findIn K (.ref C) "width" = some none ∧ PySem.W.findIn K (.ref C) "fill" = some none ∧ PySem.W.findIn K (.ref C) "side" = some none ∧ PySem.W.findIn K (.ref C) "strict" = some none ∧ PySem.W.findIn K (.ref C) "signs" = some none ∧ PySem.W.findIn K (.ref C) "least" = some none ∧ PySem.W.findIn K (.ref C) "most" = some none ∧ (∃ f, Mk K C f ∧ FnD K "__init__" "WordForm.__init__" s_WordForm_init f 4))
    (k_ChoiceForm : ∃ C, ClK K mg "ChoiceForm" C ∧ PySem.W.findIn K (.ref C) "width" = some none ∧ PySem.W.findIn K (.ref C) "fill" = some none ∧ PySem.W.findIn K (.ref C) "side" = some none ∧ PySem.W.findIn K (.ref C) "strict" = some none ∧ PySem.W.findIn K (.ref C) "names" = some none ∧ (∃ f, Mk K C f ∧ FnD K "__init__" "ChoiceForm.__init__" s_ChoiceForm_init f 4))
    (k_Form : ∃ C mc f, mg "Form" = some (.ref C) ∧ PySem.W.readsIn K C mc = true ∧ PySem.W.specialIn K (.ref C) "__getattribute__" = some (some (.builtin "type.__getattribute__")) ∧ PySem.W.findCls K (.ref C) mc "__init__" = some (.val (.ref f)) ∧ FnF K "__init__" "Form.__init__" s_Form_init f)
    (k_SIGNS : KTab ⟨K, P, w, mg⟩ "SIGNS" kv_SIGNS)
    (k_MOST_WIDTH : ∃ t, mg "MOST_WIDTH" = some (.int 40 t))
    (k_BELOW : KTab ⟨K, P, w, mg⟩ "BELOW" kv_BELOW)
    (k_ABOVE : KTab ⟨K, P, w, mg⟩ "ABOVE" kv_ABOVE)
    (k_FIGURES : ∃ t, mg "FIGURES" = some (.str "0123456789abcdef" t))
    (k_STYLES : KLst ⟨K, P, w, mg⟩ "STYLES" kl_STYLES)
    (k_WAYS : KLst ⟨K, P, w, mg⟩ "WAYS" kl_WAYS)
    (k_SIDES : KLst ⟨K, P, w, mg⟩ "SIDES" kl_SIDES)
    (k_MOST_SIGNS : ∃ t, mg "MOST_SIGNS" = some (.int 24 t))
    (k_MOST_NAMES : ∃ t, mg "MOST_NAMES" = some (.int 12 t))
    (k_MOST_LETTERS : ∃ t, mg "MOST_LETTERS" = some (.int 12 t))
    (B : Bn mg)
    (nf : ExK K mg "NoForm" "PadError" "at" "NoForm.__init__" s_NoForm_init)
    (er : ErrK K mg)
    {fa : Addr} {fd : FuncData} (F : FunA K "law" "law" s_law fa fd) : FnOk P w K mg base (L2.CX P w) 11 fa fd ["script"] (pureSp ⟨K, P, w, mg⟩ F_law) := by
  obtain ⟨a_is_text, g_is_text, h_is_text⟩ := t_is_text
  obtain ⟨a_read_tail, g_read_tail, h_read_tail⟩ := t_read_tail
  obtain ⟨a_allow_strict, g_allow_strict, h_allow_strict⟩ := t_allow_strict
  obtain ⟨a_ends_of, g_ends_of, h_ends_of⟩ := t_ends_of
  obtain ⟨a_power_of, g_power_of, h_power_of⟩ := t_power_of
  obtain ⟨a_marks_in, g_marks_in, h_marks_in⟩ := t_marks_in
  obtain ⟨a_grouped, g_grouped, h_grouped⟩ := t_grouped
  obtain ⟨a_figures_of, g_figures_of, h_figures_of⟩ := t_figures_of
  obtain ⟨a_body_of, g_body_of, h_body_of⟩ := t_body_of
  obtain ⟨a_is_whole, g_is_whole, h_is_whole⟩ := t_is_whole
  obtain ⟨a_divisor_of, g_divisor_of, h_divisor_of⟩ := t_divisor_of
  obtain ⟨a_is_fraction, g_is_fraction, h_is_fraction⟩ := t_is_fraction
  obtain ⟨a_gridded, g_gridded, h_gridded⟩ := t_gridded
  obtain ⟨a_read_number_form, g_read_number_form, h_read_number_form⟩ := t_read_number_form
  obtain ⟨a_read_word_form, g_read_word_form, h_read_word_form⟩ := t_read_word_form
  obtain ⟨a_read_choice_form, g_read_choice_form, h_read_choice_form⟩ := t_read_choice_form
  obtain ⟨a_read_form, g_read_form, h_read_form⟩ := t_read_form
  obtain ⟨a__law_whole, g__law_whole, h__law_whole⟩ := t__law_whole
  obtain ⟨a__law_pick, g__law_pick, h__law_pick⟩ := t__law_pick
  obtain ⟨a__law_all_signs, g__law_all_signs, h__law_all_signs⟩ := t__law_all_signs
  obtain ⟨a__law_drawn_sign, g__law_drawn_sign, h__law_drawn_sign⟩ := t__law_drawn_sign
  obtain ⟨a__law_number_spec, g__law_number_spec, h__law_number_spec⟩ := t__law_number_spec
  obtain ⟨a__law_word_spec, g__law_word_spec, h__law_word_spec⟩ := t__law_word_spec
  obtain ⟨a__law_sets, g__law_sets, h__law_sets⟩ := t__law_sets
  obtain ⟨a__law_near_names, g__law_near_names, h__law_near_names⟩ := t__law_near_names
  obtain ⟨a__law_choice_spec, g__law_choice_spec, h__law_choice_spec⟩ := t__law_choice_spec
  obtain ⟨a__law_shortest, g__law_shortest, h__law_shortest⟩ := t__law_shortest
  obtain ⟨a__law_any_spec, g__law_any_spec, h__law_any_spec⟩ := t__law_any_spec
  obtain ⟨a__law_signs_word, g__law_signs_word, h__law_signs_word⟩ := t__law_signs_word
  obtain ⟨a__law_sign_word, g__law_sign_word, h__law_sign_word⟩ := t__law_sign_word
  obtain ⟨a__law_first_rows, g__law_first_rows, h__law_first_rows⟩ := t__law_first_rows
  obtain ⟨a__law_word_rows, g__law_word_rows, h__law_word_rows⟩ := t__law_word_rows
  obtain ⟨a__law_refused, g__law_refused, h__law_refused⟩ := t__law_refused
  obtain ⟨a__law_keys, g__law_keys, h__law_keys⟩ := t__law_keys
  obtain ⟨a__law_lists, g__law_lists, h__law_lists⟩ := t__law_lists
  obtain ⟨a__law_language, g__law_language, h__law_language⟩ := t__law_language
  obtain ⟨a__law_new_word, g__law_new_word, h__law_new_word⟩ := t__law_new_word
  obtain ⟨a__law_is_figures, g__law_is_figures, h__law_is_figures⟩ := t__law_is_figures
  obtain ⟨a__law_rises, g__law_rises, h__law_rises⟩ := t__law_rises
  obtain ⟨a__law_may_stand, g__law_may_stand, h__law_may_stand⟩ := t__law_may_stand
  obtain ⟨a__law_one_right, g__law_one_right, h__law_one_right⟩ := t__law_one_right
  obtain ⟨a__law_signs_right, g__law_signs_right, h__law_signs_right⟩ := t__law_signs_right
  obtain ⟨a__law_right, g__law_right, h__law_right⟩ := t__law_right
  obtain ⟨a__law_cell_at, g__law_cell_at, h__law_cell_at⟩ := t__law_cell_at
  obtain ⟨a_law, g_law, h_law⟩ := t_law
  obtain ⟨C_Reading, z_Reading, n_Reading_told, n_Reading_at, ⟨i_Reading, mk_Reading, fi_Reading⟩, ⟨a_Reading_taken, m_Reading_taken, h_Reading_taken⟩, ⟨a_Reading_one_of, m_Reading_one_of, h_Reading_one_of⟩, ⟨a_Reading_read_whole, m_Reading_read_whole, h_Reading_read_whole⟩, ⟨a_Reading_begins, m_Reading_begins, h_Reading_begins⟩, ⟨a_Reading_read_sign, m_Reading_read_sign, h_Reading_read_sign⟩, ⟨a_Reading_read_signs, m_Reading_read_signs, h_Reading_read_signs⟩⟩ := k_Reading
  obtain ⟨C_NumberForm, z_NumberForm, n_NumberForm_width, n_NumberForm_fill, n_NumberForm_side, n_NumberForm_strict, n_NumberForm_figures, n_NumberForm_places, n_NumberForm_base, n_NumberForm_sign, n_NumberForm_size, n_NumberForm_mark, n_NumberForm_point, n_NumberForm_way, ⟨i_NumberForm, mk_NumberForm, fi_NumberForm⟩, ⟨a_NumberForm_lead_and_rest, m_NumberForm_lead_and_rest, h_NumberForm_lead_and_rest⟩, ⟨a_NumberForm_steps_of, m_NumberForm_steps_of, h_NumberForm_steps_of⟩, ⟨a_NumberForm_core, m_NumberForm_core, h_NumberForm_core⟩⟩ := k_NumberForm
  obtain ⟨C_WordForm, z_WordForm, n_WordForm_width, n_WordForm_fill, n_WordForm_side, n_WordForm_strict, n_WordForm_signs, n_WordForm_least, n_WordForm_most, ⟨i_WordForm, mk_WordForm, fi_WordForm⟩⟩ := k_WordForm
  obtain ⟨C_ChoiceForm, z_ChoiceForm, n_ChoiceForm_width, n_ChoiceForm_fill, n_ChoiceForm_side, n_ChoiceForm_strict, n_ChoiceForm_names, ⟨i_ChoiceForm, mk_ChoiceForm, fi_ChoiceForm⟩⟩ := k_ChoiceForm
  obtain ⟨C_Form, mc_Form, a_Form, g_Form, r_Form, ga_Form, fc_Form, h_Form⟩ := k_Form
  have x_NoForm : DExc P w K mg base 1 "NoForm" "at" := exc_NoForm nf
  have c_is_text : DCal P w K mg base CX0 1 "is_text" F_is_text := dcal_mk g_is_text h_is_text b_is_text fun fd F => d_is_text F B k_SIGNS
  have f_Reading_told : ClsFs K mg ["Reading"] "told" := cfs_cons (clsf_mk z_Reading n_Reading_told) ( cfs_nil)
  have f_Reading_at : ClsFs K mg ["Reading"] "at" := cfs_cons (clsf_mk z_Reading n_Reading_at) ( cfs_nil)
  have c_Reading_init : DMk P w K mg base CX0 1 "Reading" F_Reading_init := dmk_mk z_Reading mk_Reading (fi_Reading.fun DL.b_Reading_init) fun fd F => d_Reading_init F B f_Reading_told f_Reading_at
  have c_Reading_taken : DSMet P w K mg base (L2.CX P w) 3 "Reading" "taken" F_Reading_taken := dsmet_mk z_Reading m_Reading_taken h_Reading_taken b_Reading_taken fun fd F => d_Reading_taken F B f_Reading_at f_Reading_told x_NoForm
  have c_Reading_one_of : DSMet P w K mg base (L2.CX P w) 4 "Reading" "one_of" F_Reading_one_of := dsmet_mk z_Reading m_Reading_one_of h_Reading_one_of b_Reading_one_of fun fd F => d_Reading_one_of F B c_Reading_taken f_Reading_at x_NoForm
  have c_Reading_read_whole : DSMet P w K mg base (L2.CX P w) 4 "Reading" "read_whole" F_Reading_read_whole := dsmet_mk z_Reading m_Reading_read_whole h_Reading_read_whole b_Reading_read_whole fun fd F => d_Reading_read_whole F B c_Reading_taken f_Reading_at x_NoForm k_SIGNS
  have c_Reading_begins : DSMet P w K mg base CX0 1 "Reading" "begins" F_Reading_begins := dsmet_mk z_Reading m_Reading_begins h_Reading_begins b_Reading_begins fun fd F => d_Reading_begins F B f_Reading_at f_Reading_told
  have c_Reading_read_sign : DSMet P w K mg base (L2.CX P w) 4 "Reading" "read_sign" F_Reading_read_sign := dsmet_mk z_Reading m_Reading_read_sign h_Reading_read_sign b_Reading_read_sign fun fd F => d_Reading_read_sign F B c_Reading_taken f_Reading_at x_NoForm
  have c_read_tail : DSelf P w K mg base (L2.CX P w) 5 "read_tail" F_read_tail := dself_mk g_read_tail h_read_tail b_read_tail fun fd F => d_read_tail F B c_Reading_begins k_MOST_WIDTH c_Reading_read_whole c_Reading_read_sign c_Reading_one_of
  have f_WordForm_NumberForm_ChoiceForm_width : ClsFs K mg ["WordForm", "NumberForm", "ChoiceForm"] "width" := cfs_cons (clsf_mk z_WordForm n_WordForm_width) ( cfs_cons (clsf_mk z_NumberForm n_NumberForm_width) ( cfs_cons (clsf_mk z_ChoiceForm n_ChoiceForm_width) ( cfs_nil)))
  have f_WordForm_NumberForm_ChoiceForm_fill : ClsFs K mg ["WordForm", "NumberForm", "ChoiceForm"] "fill" := cfs_cons (clsf_mk z_WordForm n_WordForm_fill) ( cfs_cons (clsf_mk z_NumberForm n_NumberForm_fill) ( cfs_cons (clsf_mk z_ChoiceForm n_ChoiceForm_fill) ( cfs_nil)))
  have f_WordForm_NumberForm_ChoiceForm_side : ClsFs K mg ["WordForm", "NumberForm", "ChoiceForm"] "side" := cfs_cons (clsf_mk z_WordForm n_WordForm_side) ( cfs_cons (clsf_mk z_NumberForm n_NumberForm_side) ( cfs_cons (clsf_mk z_ChoiceForm n_ChoiceForm_side) ( cfs_nil)))
  have f_WordForm_NumberForm_ChoiceForm_strict : ClsFs K mg ["WordForm", "NumberForm", "ChoiceForm"] "strict" := cfs_cons (clsf_mk z_WordForm n_WordForm_strict) ( cfs_cons (clsf_mk z_NumberForm n_NumberForm_strict) ( cfs_cons (clsf_mk z_ChoiceForm n_ChoiceForm_strict) ( cfs_nil)))
  have b_Form_init : DCls P w K mg base CX0 1 "Form" "__init__" F_Form_init := dcls_mk g_Form r_Form ga_Form fc_Form h_Form DL.b_Form_init fun fd F => d_Form_init F B f_WordForm_NumberForm_ChoiceForm_width f_WordForm_NumberForm_ChoiceForm_fill f_WordForm_NumberForm_ChoiceForm_side f_WordForm_NumberForm_ChoiceForm_strict
  have f_NumberForm_figures : ClsFs K mg ["NumberForm"] "figures" := cfs_cons (clsf_mk z_NumberForm n_NumberForm_figures) ( cfs_nil)
  have f_NumberForm_places : ClsFs K mg ["NumberForm"] "places" := cfs_cons (clsf_mk z_NumberForm n_NumberForm_places) ( cfs_nil)
  have f_NumberForm_base : ClsFs K mg ["NumberForm"] "base" := cfs_cons (clsf_mk z_NumberForm n_NumberForm_base) ( cfs_nil)
  have f_NumberForm_sign : ClsFs K mg ["NumberForm"] "sign" := cfs_cons (clsf_mk z_NumberForm n_NumberForm_sign) ( cfs_nil)
  have f_NumberForm_size : ClsFs K mg ["NumberForm"] "size" := cfs_cons (clsf_mk z_NumberForm n_NumberForm_size) ( cfs_nil)
  have f_NumberForm_mark : ClsFs K mg ["NumberForm"] "mark" := cfs_cons (clsf_mk z_NumberForm n_NumberForm_mark) ( cfs_nil)
  have f_NumberForm_point : ClsFs K mg ["NumberForm"] "point" := cfs_cons (clsf_mk z_NumberForm n_NumberForm_point) ( cfs_nil)
  have f_NumberForm_way : ClsFs K mg ["NumberForm"] "way" := cfs_cons (clsf_mk z_NumberForm n_NumberForm_way) ( cfs_nil)
  have c_NumberForm_init : DMk P w K mg base CX0 2 "NumberForm" F_NumberForm_init := dmk_mk z_NumberForm mk_NumberForm (fi_NumberForm.fun DL.b_NumberForm_init) fun fd F => d_NumberForm_init F B b_Form_init f_NumberForm_figures f_NumberForm_places f_NumberForm_base f_NumberForm_sign f_NumberForm_size f_NumberForm_mark f_NumberForm_point f_NumberForm_way
  have c_allow_strict : DSelf P w K mg base (L2.CX P w) 3 "allow_strict" F_allow_strict := dself_mk g_allow_strict h_allow_strict b_allow_strict fun fd F => d_allow_strict F B f_Reading_at x_NoForm
  have c_ends_of : DCal P w K mg base CX0 1 "ends_of" F_ends_of := dcal_mk g_ends_of h_ends_of b_ends_of fun fd F => d_ends_of F B k_BELOW k_ABOVE
  have c_power_of : DCal P w K mg base CX0 1 "power_of" F_power_of := dcal_mk g_power_of h_power_of b_power_of fun fd F => d_power_of F B
  have c_marks_in : DCal P w K mg base CX0 1 "marks_in" F_marks_in := dcal_mk g_marks_in h_marks_in b_marks_in fun fd F => d_marks_in F B
  have c_grouped : DCal P w K mg base CX0 2 "grouped" F_grouped := dcal_mk g_grouped h_grouped b_grouped fun fd F => d_grouped F B c_marks_in
  have c_figures_of : DCal P w K mg base CX0 1 "figures_of" F_figures_of := dcal_mk g_figures_of h_figures_of b_figures_of fun fd F => d_figures_of F B k_FIGURES
  have c_body_of : DCal P w K mg base CX0 3 "body_of" F_body_of := dcal_mk g_body_of h_body_of b_body_of fun fd F => d_body_of F B c_power_of c_grouped c_figures_of
  have c_NumberForm_lead_and_rest : DMet P w K mg base CX0 4 "NumberForm" "lead_and_rest" F_NumberForm_lead_and_rest := dmet_mk z_NumberForm m_NumberForm_lead_and_rest h_NumberForm_lead_and_rest b_NumberForm_lead_and_rest fun fd F => d_NumberForm_lead_and_rest F B c_ends_of f_NumberForm_sign c_body_of f_NumberForm_base f_NumberForm_places f_NumberForm_point f_NumberForm_size f_NumberForm_mark
  have c_is_whole : DCal P w K mg base CX0 1 "is_whole" F_is_whole := dcal_mk g_is_whole h_is_whole b_is_whole fun fd F => d_is_whole F B
  have c_divisor_of : DCal P w K mg base CX0 1 "divisor_of" F_divisor_of := dcal_mk g_divisor_of h_divisor_of b_divisor_of fun fd F => d_divisor_of F B
  have c_is_fraction : DCal P w K mg base CX0 2 "is_fraction" F_is_fraction := dcal_mk g_is_fraction h_is_fraction b_is_fraction fun fd F => d_is_fraction F B c_is_whole c_divisor_of
  have c_gridded : DCal P w K mg base CX0 2 "gridded" F_gridded := dcal_mk g_gridded h_gridded b_gridded fun fd F => d_gridded F B c_power_of
  have c_NumberForm_steps_of : DMet P w K mg base CX0 3 "NumberForm" "steps_of" F_NumberForm_steps_of := dmet_mk z_NumberForm m_NumberForm_steps_of h_NumberForm_steps_of b_NumberForm_steps_of fun fd F => d_NumberForm_steps_of F B c_is_fraction c_gridded f_NumberForm_base f_NumberForm_places f_NumberForm_way c_power_of f_NumberForm_figures
  have c_NumberForm_core : DMet P w K mg base CX0 5 "NumberForm" "core" F_NumberForm_core := dmet_mk z_NumberForm m_NumberForm_core h_NumberForm_core b_NumberForm_core fun fd F => d_NumberForm_core F B c_NumberForm_steps_of c_NumberForm_lead_and_rest
  have c_read_number_form : DSelf P w K mg base (L2.CX P w) 6 "read_number_form" F_read_number_form := dself_mk g_read_number_form h_read_number_form b_read_number_form fun fd F => d_read_number_form F B c_Reading_read_whole c_Reading_begins k_STYLES c_Reading_one_of c_Reading_read_sign k_WAYS c_read_tail k_SIDES c_NumberForm_init c_allow_strict c_NumberForm_core
  have c_Reading_read_signs : DSMet P w K mg base (L2.CX P w) 4 "Reading" "read_signs" F_Reading_read_signs := dsmet_mk z_Reading m_Reading_read_signs h_Reading_read_signs b_Reading_read_signs fun fd F => d_Reading_read_signs F B c_Reading_taken k_SIGNS f_Reading_at x_NoForm
  have f_WordForm_signs : ClsFs K mg ["WordForm"] "signs" := cfs_cons (clsf_mk z_WordForm n_WordForm_signs) ( cfs_nil)
  have f_WordForm_least : ClsFs K mg ["WordForm"] "least" := cfs_cons (clsf_mk z_WordForm n_WordForm_least) ( cfs_nil)
  have f_WordForm_most : ClsFs K mg ["WordForm"] "most" := cfs_cons (clsf_mk z_WordForm n_WordForm_most) ( cfs_nil)
  have c_WordForm_init : DMk P w K mg base CX0 2 "WordForm" F_WordForm_init := dmk_mk z_WordForm mk_WordForm (fi_WordForm.fun DL.b_WordForm_init) fun fd F => d_WordForm_init F B b_Form_init f_WordForm_signs f_WordForm_least f_WordForm_most
  have c_read_word_form : DSelf P w K mg base (L2.CX P w) 6 "read_word_form" F_read_word_form := dself_mk g_read_word_form h_read_word_form b_read_word_form fun fd F => d_read_word_form F B c_Reading_read_signs k_MOST_SIGNS c_Reading_read_whole c_Reading_begins c_read_tail k_SIDES c_allow_strict c_WordForm_init
  have f_ChoiceForm_names : ClsFs K mg ["ChoiceForm"] "names" := cfs_cons (clsf_mk z_ChoiceForm n_ChoiceForm_names) ( cfs_nil)
  have c_ChoiceForm_init : DMk P w K mg base CX0 2 "ChoiceForm" F_ChoiceForm_init := dmk_mk z_ChoiceForm mk_ChoiceForm (fi_ChoiceForm.fun DL.b_ChoiceForm_init) fun fd F => d_ChoiceForm_init F B b_Form_init f_ChoiceForm_names
  have c_read_choice_form : DSelf P w K mg base (L2.CX P w) 6 "read_choice_form" F_read_choice_form := dself_mk g_read_choice_form h_read_choice_form b_read_choice_form fun fd F => d_read_choice_form F B k_MOST_NAMES c_Reading_read_whole c_Reading_taken k_MOST_LETTERS f_Reading_at x_NoForm c_read_tail k_SIDES c_allow_strict c_ChoiceForm_init
  have c_read_form : DCal P w K mg base (L2.CX P w) 7 "read_form" F_read_form := dcal_mk g_read_form h_read_form b_read_form fun fd F => d_read_form F B c_is_text x_NoForm c_Reading_init c_Reading_one_of c_read_number_form c_read_word_form c_read_choice_form f_Reading_at f_Reading_told
  have c__law_whole : DCal P w K mg base CX0 1 "_law_whole" F__law_whole := dcal_mk g__law_whole h__law_whole b__law_whole fun fd F => d__law_whole F B
  have c__law_pick : DCal P w K mg base CX0 1 "_law_pick" F__law_pick := dcal_mk g__law_pick h__law_pick b__law_pick fun fd F => d__law_pick F B
  have c__law_all_signs : DCal P w K mg base CX0 1 "_law_all_signs" F__law_all_signs := dcal_mk g__law_all_signs h__law_all_signs b__law_all_signs fun fd F => d__law_all_signs F B
  have c__law_drawn_sign : DCal P w K mg base CX0 2 "_law_drawn_sign" F__law_drawn_sign := dcal_mk g__law_drawn_sign h__law_drawn_sign b__law_drawn_sign fun fd F => d__law_drawn_sign F B c__law_pick c__law_all_signs
  have c__law_number_spec : DCal P w K mg base CX0 3 "_law_number_spec" F__law_number_spec := dcal_mk g__law_number_spec h__law_number_spec b__law_number_spec fun fd F => d__law_number_spec F B c__law_pick c__law_drawn_sign
  have c__law_word_spec : DCal P w K mg base CX0 3 "_law_word_spec" F__law_word_spec := dcal_mk g__law_word_spec h__law_word_spec b__law_word_spec fun fd F => d__law_word_spec F B c__law_pick c__law_all_signs c__law_drawn_sign
  have c__law_sets : DCal P w K mg base CX0 2 "_law_sets" F__law_sets := dcal_mk g__law_sets h__law_sets b__law_sets fun fd F => d__law_sets F B c__law_all_signs
  have c__law_near_names : DCal P w K mg base CX0 2 "_law_near_names" F__law_near_names := dcal_mk g__law_near_names h__law_near_names b__law_near_names fun fd F => d__law_near_names F B c__law_all_signs c__law_pick
  have c__law_choice_spec : DCal P w K mg base CX0 3 "_law_choice_spec" F__law_choice_spec := dcal_mk g__law_choice_spec h__law_choice_spec b__law_choice_spec fun fd F => d__law_choice_spec F B c__law_near_names c__law_pick c__law_drawn_sign
  have c__law_shortest : DCal P w K mg base CX0 1 "_law_shortest" F__law_shortest := dcal_mk g__law_shortest h__law_shortest b__law_shortest fun fd F => d__law_shortest F B
  have c__law_any_spec : DCal P w K mg base CX0 4 "_law_any_spec" F__law_any_spec := dcal_mk g__law_any_spec h__law_any_spec b__law_any_spec fun fd F => d__law_any_spec F B c__law_number_spec c__law_word_spec c__law_pick c__law_sets c__law_choice_spec c__law_shortest
  have c__law_signs_word : DCalT P w K mg base 3 "_law_signs_word" F__law_signs_word := dcalT_mk g__law_signs_word h__law_signs_word b__law_signs_word fun fd F => d__law_signs_word F B c__law_sets
  have c__law_sign_word : DCal P w K mg base CX0 1 "_law_sign_word" F__law_sign_word := dcal_mk g__law_sign_word h__law_sign_word b__law_sign_word fun fd F => d__law_sign_word F B
  have c__law_first_rows : DCal P w K mg base CX0 4 "_law_first_rows" F__law_first_rows := dcal_mk g__law_first_rows h__law_first_rows b__law_first_rows fun fd F => d__law_first_rows F B c__law_signs_word c__law_sign_word
  have c__law_word_rows : DCal P w K mg base CX0 5 "_law_word_rows" F__law_word_rows := dcal_mk g__law_word_rows h__law_word_rows b__law_word_rows fun fd F => d__law_word_rows F B c__law_first_rows c__law_sign_word
  have c__law_refused : DCal P w K mg base CX0 8 "_law_refused" F__law_refused := by
    obtain ⟨fdW, FW, bW⟩ := h__law_whole.fun b__law_whole
    exact dcal_mk g__law_refused h__law_refused b__law_refused fun fd F => d__law_refused F B er c_read_form FW bW g__law_whole
  have c__law_keys : DCal P w K mg base CX0 1 "_law_keys" F__law_keys := dcal_mk g__law_keys h__law_keys b__law_keys fun fd F => d__law_keys F B
  have c__law_lists : DCal P w K mg base CX0 1 "_law_lists" F__law_lists := dcal_mk g__law_lists h__law_lists b__law_lists fun fd F => d__law_lists F B
  have c__law_language : DCal P w K mg base CX0 2 "_law_language" F__law_language := dcal_mk g__law_language h__law_language b__law_language fun fd F => d__law_language F B c__law_keys c__law_lists
  have c__law_new_word : DCal P w K mg base CX0 3 "_law_new_word" F__law_new_word := dcal_mk g__law_new_word h__law_new_word b__law_new_word fun fd F => d__law_new_word F B c__law_all_signs c__law_pick c__law_language
  have c__law_is_figures : DCal P w K mg base CX0 1 "_law_is_figures" F__law_is_figures := dcal_mk g__law_is_figures h__law_is_figures b__law_is_figures fun fd F => d__law_is_figures F B
  have c__law_rises : DCal P w K mg base CX0 1 "_law_rises" F__law_rises := dcal_mk g__law_rises h__law_rises b__law_rises fun fd F => d__law_rises F B
  have c__law_may_stand : DCal P w K mg base CX0 3 "_law_may_stand" F__law_may_stand := dcal_mk g__law_may_stand h__law_may_stand b__law_may_stand fun fd F => d__law_may_stand F B c__law_is_figures c__law_sets c__law_rises c__law_keys c__law_lists
  have c__law_one_right : DCal P w K mg base CX0 9 "_law_one_right" F__law_one_right := dcal_mk g__law_one_right h__law_one_right b__law_one_right fun fd F => d__law_one_right F B c__law_pick c__law_new_word c__law_may_stand c__law_refused
  have c__law_signs_right : DCal P w K mg base (L2.CX P w) 9 "_law_signs_right" F__law_signs_right := dcal_mk g__law_signs_right h__law_signs_right b__law_signs_right fun fd F => d__law_signs_right F B c__law_pick c__law_all_signs c__law_rises c__law_refused f_WordForm_signs c_read_form
  have c__law_right : DCal P w K mg base (L2.CX P w) 10 "_law_right" F__law_right := dcal_mk g__law_right h__law_right b__law_right fun fd F => d__law_right F B c__law_any_spec c__law_pick c__law_word_rows c__law_refused c__law_one_right c__law_signs_right
  have c__law_cell_at : DCal P w K mg base CX0 1 "_law_cell_at" F__law_cell_at := dcal_mk g__law_cell_at h__law_cell_at b__law_cell_at fun fd F => d__law_cell_at F B
  exact d_law F B c__law_right c__law_cell_at
theorem fin50 {P : Program} {w : World} {K : Fg} {mg : Str → Option Value} {h : Heap} {fa : Addr} (KX : K.In h) (G : h.Ns mainGlobals mg) (hmg : mg "law" = some (.ref fa)) (hl : ∀ ns : List Int, ns.length ≤ 63 → F_law [.rol ns] = .ok (.fz (.bl true)))
    (t_is_text : ∃ f, mg "is_text" = some (.ref f) ∧ FnF K "is_text" "is_text" s_is_text f)
    (t_read_tail : ∃ f, mg "read_tail" = some (.ref f) ∧ FnF K "read_tail" "read_tail" s_read_tail f)
    (t_allow_strict : ∃ f, mg "allow_strict" = some (.ref f) ∧ FnF K "allow_strict" "allow_strict" s_allow_strict f)
    (t_ends_of : ∃ f, mg "ends_of" = some (.ref f) ∧ FnF K "ends_of" "ends_of" s_ends_of f)
    (t_power_of : ∃ f, mg "power_of" = some (.ref f) ∧ FnF K "power_of" "power_of" s_power_of f)
    (t_marks_in : ∃ f, mg "marks_in" = some (.ref f) ∧ FnF K "marks_in" "marks_in" s_marks_in f)
    (t_grouped : ∃ f, mg "grouped" = some (.ref f) ∧ FnF K "grouped" "grouped" s_grouped f)
    (t_figures_of : ∃ f, mg "figures_of" = some (.ref f) ∧ FnF K "figures_of" "figures_of" s_figures_of f)
    (t_body_of : ∃ f, mg "body_of" = some (.ref f) ∧ FnF K "body_of" "body_of" s_body_of f)
    (t_is_whole : ∃ f, mg "is_whole" = some (.ref f) ∧ FnF K "is_whole" "is_whole" s_is_whole f)
    (t_divisor_of : ∃ f, mg "divisor_of" = some (.ref f) ∧ FnF K "divisor_of" "divisor_of" s_divisor_of f)
    (t_is_fraction : ∃ f, mg "is_fraction" = some (.ref f) ∧ FnF K "is_fraction" "is_fraction" s_is_fraction f)
    (t_gridded : ∃ f, mg "gridded" = some (.ref f) ∧ FnF K "gridded" "gridded" s_gridded f)
    (t_read_number_form : ∃ f, mg "read_number_form" = some (.ref f) ∧ FnF K "read_number_form" "read_number_form" s_read_number_form f)
    (t_read_word_form : ∃ f, mg "read_word_form" = some (.ref f) ∧ FnF K "read_word_form" "read_word_form" s_read_word_form f)
    (t_read_choice_form : ∃ f, mg "read_choice_form" = some (.ref f) ∧ FnF K "read_choice_form" "read_choice_form" s_read_choice_form f)
    (t_read_form : ∃ f, mg "read_form" = some (.ref f) ∧ FnF K "read_form" "read_form" s_read_form f)
    (t__law_whole : ∃ f, mg "_law_whole" = some (.ref f) ∧ FnF K "_law_whole" "_law_whole" s__law_whole f)
    (t__law_pick : ∃ f, mg "_law_pick" = some (.ref f) ∧ FnF K "_law_pick" "_law_pick" s__law_pick f)
    (t__law_all_signs : ∃ f, mg "_law_all_signs" = some (.ref f) ∧ FnF K "_law_all_signs" "_law_all_signs" s__law_all_signs f)
    (t__law_drawn_sign : ∃ f, mg "_law_drawn_sign" = some (.ref f) ∧ FnF K "_law_drawn_sign" "_law_drawn_sign" s__law_drawn_sign f)
    (t__law_number_spec : ∃ f, mg "_law_number_spec" = some (.ref f) ∧ FnF K "_law_number_spec" "_law_number_spec" s__law_number_spec f)
    (t__law_word_spec : ∃ f, mg "_law_word_spec" = some (.ref f) ∧ FnF K "_law_word_spec" "_law_word_spec" s__law_word_spec f)
    (t__law_sets : ∃ f, mg "_law_sets" = some (.ref f) ∧ FnF K "_law_sets" "_law_sets" s__law_sets f)
    (t__law_near_names : ∃ f, mg "_law_near_names" = some (.ref f) ∧ FnF K "_law_near_names" "_law_near_names" s__law_near_names f)
    (t__law_choice_spec : ∃ f, mg "_law_choice_spec" = some (.ref f) ∧ FnF K "_law_choice_spec" "_law_choice_spec" s__law_choice_spec f)
    (t__law_shortest : ∃ f, mg "_law_shortest" = some (.ref f) ∧ FnF K "_law_shortest" "_law_shortest" s__law_shortest f)
    (t__law_any_spec : ∃ f, mg "_law_any_spec" = some (.ref f) ∧ FnF K "_law_any_spec" "_law_any_spec" s__law_any_spec f)
    (t__law_signs_word : ∃ f, mg "_law_signs_word" = some (.ref f) ∧ FnF K "_law_signs_word" "_law_signs_word" s__law_signs_word f)
    (t__law_sign_word : ∃ f, mg "_law_sign_word" = some (.ref f) ∧ FnF K "_law_sign_word" "_law_sign_word" s__law_sign_word f)
    (t__law_first_rows : ∃ f, mg "_law_first_rows" = some (.ref f) ∧ FnF K "_law_first_rows" "_law_first_rows" s__law_first_rows f)
    (t__law_word_rows : ∃ f, mg "_law_word_rows" = some (.ref f) ∧ FnF K "_law_word_rows" "_law_word_rows" s__law_word_rows f)
    (t__law_refused : ∃ f, mg "_law_refused" = some (.ref f) ∧ FnF K "_law_refused" "_law_refused" s__law_refused f)
    (t__law_keys : ∃ f, mg "_law_keys" = some (.ref f) ∧ FnF K "_law_keys" "_law_keys" s__law_keys f)
    (t__law_lists : ∃ f, mg "_law_lists" = some (.ref f) ∧ FnF K "_law_lists" "_law_lists" s__law_lists f)
    (t__law_language : ∃ f, mg "_law_language" = some (.ref f) ∧ FnF K "_law_language" "_law_language" s__law_language f)
    (t__law_new_word : ∃ f, mg "_law_new_word" = some (.ref f) ∧ FnF K "_law_new_word" "_law_new_word" s__law_new_word f)
    (t__law_is_figures : ∃ f, mg "_law_is_figures" = some (.ref f) ∧ FnF K "_law_is_figures" "_law_is_figures" s__law_is_figures f)
    (t__law_rises : ∃ f, mg "_law_rises" = some (.ref f) ∧ FnF K "_law_rises" "_law_rises" s__law_rises f)
    (t__law_may_stand : ∃ f, mg "_law_may_stand" = some (.ref f) ∧ FnF K "_law_may_stand" "_law_may_stand" s__law_may_stand f)
    (t__law_one_right : ∃ f, mg "_law_one_right" = some (.ref f) ∧ FnF K "_law_one_right" "_law_one_right" s__law_one_right f)
    (t__law_signs_right : ∃ f, mg "_law_signs_right" = some (.ref f) ∧ FnF K "_law_signs_right" "_law_signs_right" s__law_signs_right f)
    (t__law_right : ∃ f, mg "_law_right" = some (.ref f) ∧ FnF K "_law_right" "_law_right" s__law_right f)
    (t__law_cell_at : ∃ f, mg "_law_cell_at" = some (.ref f) ∧ FnF K "_law_cell_at" "_law_cell_at" s__law_cell_at f)
    (t_law : ∃ f, mg "law" = some (.ref f) ∧ FnF K "law" "law" s_law f)
    (k_Reading : ∃ C, ClK K mg "Reading" C ∧ PySem.W.findIn K (.ref C) "told" = some none ∧ PySem.W.findIn K (.ref C) "at" = some none ∧ (∃ f, Mk K C f ∧ FnF K "__init__" "Reading.__init__" s_Reading_init f) ∧ (∃ f, MtK K C "taken" f ∧ FnF K "taken" "Reading.taken" s_Reading_taken f) ∧ (∃ f, MtK K C "one_of" f ∧ FnF K "one_of" "Reading.one_of" s_Reading_one_of f) ∧ (∃ f, MtK K C "read_whole" f ∧ FnF K "read_whole" "Reading.read_whole" s_Reading_read_whole f) ∧ (∃ f, MtK K C "begins" f ∧ FnF K "begins" "Reading.begins" s_Reading_begins f) ∧ (∃ f, MtK K C "read_sign" f ∧ FnF K "read_sign" "Reading.read_sign" s_Reading_read_sign f) ∧ (∃ f, MtK K C "read_signs" f ∧ FnF K "read_signs" "Reading.read_signs" s_Reading_read_signs f))
    (k_NumberForm : ∃ C, ClK K mg "NumberForm" C ∧ PySem.W.findIn K (.ref C) "width" = some none ∧ PySem.W.findIn K (.ref C) "fill" = some none ∧ PySem.W.findIn K (.ref C) "side" = some none ∧ PySem.W.findIn K (.ref C) "strict" = some none ∧ PySem.W.findIn K (.ref C) "figures" = some none ∧ PySem.W.findIn K (.ref C) "places" = some none ∧ PySem.W.findIn K (.ref C) "base" = some none ∧ PySem.W.findIn K (.ref C) "sign" = some none ∧ PySem.W.findIn K (.ref C) "size" = some none ∧ PySem.W.findIn K (.ref C) "mark" = some none ∧ PySem.W.findIn K (.ref C) "point" = some none ∧ PySem.W.findIn K (.ref C) "way" = some none ∧ (∃ f, Mk K C f ∧ FnD K "__init__" "NumberForm.__init__" s_NumberForm_init f 10) ∧ (∃ f, MtK K C "lead_and_rest" f ∧ FnF K "lead_and_rest" "NumberForm.lead_and_rest" s_NumberForm_lead_and_rest f) ∧ (∃ f, MtK K C "steps_of" f ∧ FnF K "steps_of" "NumberForm.steps_of" s_NumberForm_steps_of f) ∧ (∃ f, MtK K C "core" f ∧ FnF K "core" "NumberForm.core" s_NumberForm_core f))
    (k_WordForm : ∃ C, ClK K mg "WordForm" C ∧ PySem.W.findIn K (.ref C) "width" = some none ∧ PySem.W.findIn K (.ref C) "fill" = some none ∧ PySem.W.findIn K (.ref C) "side" = some none ∧ PySem.W.findIn K (.ref C) "strict" = some none ∧ PySem.W.findIn K (.ref C) "signs" = some none ∧ PySem.W.findIn K (.ref C) "least" = some none ∧ PySem.W.findIn K (.ref C) "most" = some none ∧ (∃ f, Mk K C f ∧ FnD K "__init__" "WordForm.__init__" s_WordForm_init f 4))
    (k_ChoiceForm : ∃ C, ClK K mg "ChoiceForm" C ∧ PySem.W.findIn K (.ref C) "width" = some none ∧ PySem.W.findIn K (.ref C) "fill" = some none ∧ PySem.W.findIn K (.ref C) "side" = some none ∧ PySem.W.findIn K (.ref C) "strict" = some none ∧ PySem.W.findIn K (.ref C) "names" = some none ∧ (∃ f, Mk K C f ∧ FnD K "__init__" "ChoiceForm.__init__" s_ChoiceForm_init f 4))
    (k_Form : ∃ C mc f, mg "Form" = some (.ref C) ∧ PySem.W.readsIn K C mc = true ∧ PySem.W.specialIn K (.ref C) "__getattribute__" = some (some (.builtin "type.__getattribute__")) ∧ PySem.W.findCls K (.ref C) mc "__init__" = some (.val (.ref f)) ∧ FnF K "__init__" "Form.__init__" s_Form_init f)
    (k_SIGNS : KTab ⟨K, P, w, mg⟩ "SIGNS" kv_SIGNS)
    (k_MOST_WIDTH : ∃ t, mg "MOST_WIDTH" = some (.int 40 t))
    (k_BELOW : KTab ⟨K, P, w, mg⟩ "BELOW" kv_BELOW)
    (k_ABOVE : KTab ⟨K, P, w, mg⟩ "ABOVE" kv_ABOVE)
    (k_FIGURES : ∃ t, mg "FIGURES" = some (.str "0123456789abcdef" t))
    (k_STYLES : KLst ⟨K, P, w, mg⟩ "STYLES" kl_STYLES)
    (k_WAYS : KLst ⟨K, P, w, mg⟩ "WAYS" kl_WAYS)
    (k_SIDES : KLst ⟨K, P, w, mg⟩ "SIDES" kl_SIDES)
    (k_MOST_SIGNS : ∃ t, mg "MOST_SIGNS" = some (.int 24 t))
    (k_MOST_NAMES : ∃ t, mg "MOST_NAMES" = some (.int 12 t))
    (k_MOST_LETTERS : ∃ t, mg "MOST_LETTERS" = some (.int 12 t))
    (B : Bn mg)
    (nf : ExK K mg "NoForm" "PadError" "at" "NoForm.__init__" s_NoForm_init)
    (er : ErrK K mg)
    : ∃ fd : FuncData, (∀ (s : Shared) (u : Value), BindsTo s fd ⟨[u], []⟩ [("script", u)]) ∧ ∀ base : Heap, K.In base → base.Ns mainGlobals mg → FnOk P w K mg base (L2.CX P w) 20 fa fd ["script"] (spLaw K) := by
  obtain ⟨a, g, hh⟩ := id t_law
  have e := hmg.symm.trans g
  cases e
  obtain ⟨fd, F, b⟩ := hh.fun b_law
  refine ⟨fd, fun s u => law_binds hh F b s u, fun base _ _ => ((fin_law t_is_text t_read_tail t_allow_strict t_ends_of t_power_of t_marks_in t_grouped t_figures_of t_body_of t_is_whole t_divisor_of t_is_fraction t_gridded t_read_number_form t_read_word_form t_read_choice_form t_read_form t__law_whole t__law_pick t__law_all_signs t__law_drawn_sign t__law_number_spec t__law_word_spec t__law_sets t__law_near_names t__law_choice_spec t__law_shortest t__law_any_spec t__law_signs_word t__law_sign_word t__law_first_rows t__law_word_rows t__law_refused t__law_keys t__law_lists t__law_language t__law_new_word t__law_is_figures t__law_rises t__law_may_stand t__law_one_right t__law_signs_right t__law_right t__law_cell_at t_law k_Reading k_NumberForm k_WordForm k_ChoiceForm k_Form k_SIGNS k_MOST_WIDTH k_BELOW k_ABOVE k_FIGURES k_STYLES k_WAYS k_SIDES k_MOST_SIGNS k_MOST_NAMES k_MOST_LETTERS B nf er F).mono (by decide)).imp fun vs H Q E z => ?_⟩
  obtain ⟨a, ns, ev, hS, hn, k⟩ := z
  refine ⟨H, [.rol ns], Same.refl H, by rw [ev]; exact RepL.one ⟨a, rfl, hS⟩, ?_⟩
  rw [hl ns hn]
  intro v G1 H1 _ _ _ _ cv
  obtain ⟨w1, ew, rw1⟩ := cv.1
  cases ew
  cases rw1
  exact k H1
end DL
namespace DL
open PySem PySem.Spec PyProof.Rows L2
noncomputable def pk1 (c s : Int) : Int := (c % 1000000007 + 314159265 + 104729 * s) % 998244353
noncomputable def pk2 (c s : Int) : Int := pk1 c s * pk1 c s % 998244353
noncomputable def pick (c s m : Int) : Int :=
  if c > 10 ^ 18 ∧ c / 2 ^ (20 * s).toNat > 0 then c / 2 ^ (20 * s).toNat % 1048576 % m
  else (pk2 c s + 271828183) * (pk2 c s / 1024 + 48271 + s) % 2147483629 / 128 % m
theorem pick_lo (c s m : Int) (hm : 0 < m) : 0 ≤ pick c s m := by
  unfold pick
  split <;> exact Int.emod_nonneg _ (by omega)
theorem pick_hi (c s m : Int) (hm : 0 < m) : pick c s m < m := by
  unfold pick
  split <;> exact Int.emod_lt_of_pos _ hm
theorem e_pick (c s m : Int) (h0 : 0 ≤ s) (hm : 0 < m) : F__law_pick [.int c, .int s, .int m] = .ok (.fz (.int (pick c s m))) := by
  have hs : (0:Int) ≤ 20 * s := by omega
  have b1 : 0 ≤ pk1 c s := Int.emod_nonneg _ (by decide)
  have b2 : pk1 c s < 998244353 := Int.emod_lt_of_pos _ (by decide)
  have b3 : 0 ≤ pk2 c s := Int.emod_nonneg _ (by decide)
  have b4 : pk2 c s < 998244353 := Int.emod_lt_of_pos _ (by decide)
  have m1 : hMul (.int 20) (.int s) = some (.int (20 * s)) := ev_hMul (.inl (by decide))
  have m2 : hMul (.int 104729) (.int s) = some (.int (104729 * s)) := ev_hMul (.inl (by decide))
  have m3 : hMul (.int (pk1 c s)) (.int (pk1 c s)) = some (.int (pk1 c s * pk1 c s)) := ev_hMul (.inl (by omega))
  have m4 : hMul (.int (pk2 c s + 271828183)) (.int (pk2 c s / 1024 + 48271 + s)) = some (.int ((pk2 c s + 271828183) * (pk2 c s / 1024 + 48271 + s))) := ev_hMul (.inl (by omega))
  have e1 : (c % 1000000007 + 314159265 + 104729 * s) % 998244353 = pk1 c s := rfl
  have e2 : pk1 c s * pk1 c s % 998244353 = pk2 c s := rfl
  unfold F__law_pick pick
  by_cases h2 : (1000000000000000000:Int) < c
  · by_cases h3 : 0 < c / 2 ^ (20 * s).toNat
    · simp [h2, h3, hs, m1, hm]
    · simp [h2, h3, hs, m1, m2, hm, e1, m3, e2, m4]
  · simp [h2, hs, m1, m2, hm, e1, m3, e2, m4]
noncomputable def asS : Str := " !\"#$&'()*+,-./0123456789:;<=>?@ABCDEFGHIJKLMNOPQRSTUVWXYZ[\\]^_`abcdefghijklmnopqrstuvwxyz{|}~"
noncomputable def AS : List Nat := asS.cps.toList
theorem AS_len : AS.length = 94 := by decide +kernel
theorem small_len {z : Str} (h : z.length ≤ 1000) : z.length ≤ sizeLine := by rw [sizeLine_eq]; omega
theorem hIxS {z : Str} {j : Int} (hz : z.length ≤ 1000) (h0 : 0 ≤ j) (h1 : j < z.cps.toList.length) : ∃ c ∈ z.cps.toList, hIx (.str z) (.int j) = some (.str (sgn c)) := by
  obtain ⟨c, e, m⟩ := atI_mem (xs := z.cps.toList) h0 h1
  refine ⟨c, m, ?_⟩
  show (if z.length ≤ sizeLine then (L2.atI z.cps.toList j).map fun c => D.str (sgn c) else none) = _
  rw [if_pos (small_len hz), e]; rfl
theorem hLenS {z : Str} (hz : z.length ≤ 1000) : hLen [.str z] = some (.int z.length) := if_pos (small_len hz)
@[simp] theorem e_all_signs : F__law_all_signs [] = .ok (.fz (.str asS)) := by
  simp [F__law_all_signs, asS]
noncomputable def fewS : Str := " 0-+(1*)_,.9f"
theorem few_sub : ∀ c ∈ fewS.cps.toList, c ∈ AS := by decide +kernel
theorem e_drawn_sign (c s : Int) (h0 : 0 ≤ s) : ∃ x ∈ AS, F__law_drawn_sign [.int c, .int s] = .ok (.fz (.str (sgn x))) := by
  have l1 : fewS.length = 13 := by decide +kernel
  have l2 : asS.length = 94 := by decide +kernel
  have l3 : fewS.cps.toList.length = 13 := by decide +kernel
  have l4 : asS.cps.toList.length = 94 := by decide +kernel
  have k1 := e_pick c s 3 h0 (by decide)
  have k2 := e_pick c (s + 1) 13 (by omega) (by decide)
  have k3 := e_pick c (s + 2) 94 (by omega) (by decide)
  obtain ⟨x1, m1, q1⟩ := hIxS (z := fewS) (j := pick c (s + 1) 13) (by omega) (pick_lo _ _ _ (by decide)) (by rw [l3]; exact pick_hi _ _ _ (by decide))
  obtain ⟨x2, m2, q2⟩ := hIxS (z := asS) (j := pick c (s + 2) 94) (by omega) (pick_lo _ _ _ (by decide)) (by rw [l4]; exact pick_hi _ _ _ (by decide))
  have hl : hLen [.str fewS] = some (.int 13) := by rw [hLenS (by omega), l1]; rfl
  have ef : (" 0-+(1*)_,.9f" : Str) = fewS := rfl
  by_cases h : 0 < pick c s 3
  · refine ⟨x1, few_sub _ m1, ?_⟩
    unfold F__law_drawn_sign
    simp [k1, h, ef, hl, k2, q1]
  · refine ⟨x2, m2, ?_⟩
    unfold F__law_drawn_sign
    simp [k1, h, k3, q2]
end DL
namespace DL
open PySem PySem.Spec PyProof.Rows L2
structure NSp where
  fig : Int
  plc : Int
  base : Int
  sign : Str
  size : Int
  mark : Nat
  point : Nat
  way : Str
  width : Int
  fill : Nat
  side : Str
  strict : Bool
noncomputable def NSp.d (s : NSp) : D := .tup [.str "number", .int s.fig, .int s.plc, .int s.base, .str s.sign, .int s.size, .str (sgn s.mark), .str (sgn s.point), .str s.way, .int s.width, .str (sgn s.fill), .str s.side, .bl s.strict]
noncomputable def stylesL : List Str := ["minus", "plus", "blank", "brackets", "behind"]
noncomputable def waysL : List Str := ["down", "up", "cut", "near", "even"]
noncomputable def sides3 : List Str := ["left", "right", "middle"]
noncomputable def sides4 : List Str := ["left", "right", "middle", "inside"]
structure NSp.Ok (s : NSp) : Prop where
  fig : 1 ≤ s.fig ∧ s.fig ≤ 12
  plc : 0 ≤ s.plc ∧ s.plc ≤ 6
  base : 2 ≤ s.base ∧ s.base ≤ 16
  sign : s.sign ∈ stylesL
  size : 0 ≤ s.size ∧ s.size ≤ 9
  mark : s.mark ∈ AS
  point : s.point ∈ AS
  way : s.way ∈ waysL
  width : 0 ≤ s.width ∧ s.width ≤ 40
  fill : s.fill ∈ AS
  side : s.side ∈ sides4
theorem ix_str {xs : List Str} {j : Int} (h0 : 0 ≤ j) (h1 : j < xs.length) : ∃ x ∈ xs, L2.atI (xs.map D.str) j = some (.str x) := by
  obtain ⟨x, e, m⟩ := atI_mem (xs := xs) h0 h1
  exact ⟨x, m, by rw [atI_map, e]; rfl⟩
theorem ix_int {xs : List Int} {j : Int} (h0 : 0 ≤ j) (h1 : j < xs.length) : ∃ x ∈ xs, L2.atI (xs.map D.int) j = some (.int x) := by
  obtain ⟨x, e, m⟩ := atI_mem (xs := xs) h0 h1
  exact ⟨x, m, by rw [atI_map, e]; rfl⟩
theorem e_number_spec (c o : Int) : ∃ s : NSp, s.Ok ∧ F__law_number_spec [.int c, .int o, .int 0] = .ok (.fz s.d) := by
  have P := fun c s m h0 hm => e_pick c s m h0 hm
  have lo := fun c s m hm => pick_lo c s m hm
  have hi := fun c s m hm => pick_hi c s m hm
  obtain ⟨b, mb, qb⟩ := ix_int (xs := [10, 2, 16, 2 + pick c 3 15]) (j := pick c 4 4) (lo _ _ _ (by decide)) (hi _ _ _ (by decide))
  obtain ⟨sg, ms, qs⟩ := ix_str (xs := stylesL) (j := pick c 5 5) (lo _ _ _ (by decide)) (hi _ _ _ (by decide))
  obtain ⟨sz, mz, qz⟩ := ix_int (xs := [0, 3, 1 + pick c 6 9]) (j := pick c 7 3) (lo _ _ _ (by decide)) (hi _ _ _ (by decide))
  obtain ⟨wy, mw, qw⟩ := ix_str (xs := waysL) (j := pick c 8 5) (lo _ _ _ (by decide)) (hi _ _ _ (by decide))
  obtain ⟨x1, m1, q1⟩ := e_drawn_sign o 10 (by decide)
  obtain ⟨x2, m2, q2⟩ := e_drawn_sign o 20 (by decide)
  obtain ⟨x3, m3, q3⟩ := e_drawn_sign o 30 (by decide)
  obtain ⟨wd, md, qd⟩ := ix_int (xs := [0, 1 + pick o 40 40, 3 + pick o 41 8]) (j := pick o 42 3) (lo _ _ _ (by decide)) (hi _ _ _ (by decide))
  obtain ⟨sd, mi, qi⟩ := ix_str (xs := ["right", "left", "middle", "inside"]) (j := pick o 43 4) (lo _ _ _ (by decide)) (hi _ _ _ (by decide))
  have l1 := lo c 1 12 (by decide); have h1 := hi c 1 12 (by decide)
  have l2 := lo c 2 7 (by decide); have h2 := hi c 2 7 (by decide)
  have l3 := lo c 3 15 (by decide); have h3 := hi c 3 15 (by decide)
  have l6 := lo c 6 9 (by decide); have h6 := hi c 6 9 (by decide)
  have l40 := lo o 40 40 (by decide); have h40 := hi o 40 40 (by decide)
  have l41 := lo o 41 8 (by decide); have h41 := hi o 41 8 (by decide)
  simp only [stylesL, waysL, List.map_cons, List.map_nil] at qb qs qz qw qd qi
  have K1 := e_pick c 1 12 (by decide) (by decide)
  have K2 := e_pick c 2 7 (by decide) (by decide)
  have K3 := e_pick c 3 15 (by decide) (by decide)
  have K4 := e_pick c 4 4 (by decide) (by decide)
  have K5 := e_pick c 5 5 (by decide) (by decide)
  have K6 := e_pick c 6 9 (by decide) (by decide)
  have K7 := e_pick c 7 3 (by decide) (by decide)
  have K8 := e_pick c 8 5 (by decide) (by decide)
  have K40 := e_pick o 40 40 (by decide) (by decide)
  have K41 := e_pick o 41 8 (by decide) (by decide)
  have K42 := e_pick o 42 3 (by decide) (by decide)
  have K43 := e_pick o 43 4 (by decide) (by decide)
  have K44 := e_pick o 44 3 (by decide) (by decide)
  refine ⟨⟨1 + pick c 1 12, pick c 2 7, b, sg, sz, x1, x2, wy, wd, x3, sd, decide (pick o 44 3 = 0)⟩, ⟨⟨?_, ?_⟩, ⟨?_, ?_⟩, ?_, ms, ?_, m1, m2, mw, ?_, m3, ?_⟩, ?_⟩
  · show 1 ≤ 1 + pick c 1 12; omega
  · show 1 + pick c 1 12 ≤ 12; omega
  · show 0 ≤ pick c 2 7; omega
  · show pick c 2 7 ≤ 6; omega
  · simp at mb; show 2 ≤ b ∧ b ≤ 16; omega
  · simp at mz; show 0 ≤ sz ∧ sz ≤ 9; omega
  · simp at md; show 0 ≤ wd ∧ wd ≤ 40; omega
  · simp [sides4] at mi ⊢
    rcases mi with h | h | h | h <;> simp [h]
  · unfold F__law_number_spec NSp.d
    simp -implicitDefEqProofs [K1, K2, K3, K4, K5, K6, K7, K8, K40, K41, K42, K43, K44, qb, qs, qz, qw, q1, q2, q3, qd, qi, gIxN, cLst]
end DL
namespace DL
open PySem PySem.Spec PyProof.Rows L2
noncomputable def sliS (d : D) (l h : Option Int) : Option D := match d with
  | .str z => if z.length ≤ sizeLine then some (.str (cutS z l h)) else none
  | _ => none
noncomputable def sliT (d : D) (l h : Option Int) : Option D := match d with
  | .tup ds => some (.tup (cutD ds l h))
  | _ => none
noncomputable def sliL (d : D) (l h : Option Int) : Option Cell := (hLst d).map fun ds => .ow (cutD ds l h)
noncomputable def sliK (d : D) (l h k : Option Int) : Option D := match d, k with
  | .str z, some k => if 0 < k ∧ (cutStep z l h k).length ≤ sizeLine then some (.str (cutStep z l h k)) else none
  | _, _ => none
noncomputable def prtI : D → Option (Option Int)
  | .int i => some (some i)
  | _ => none
@[simp] theorem ev_mPartN {env : DEnv} : mPart none env = .ok (none, env) := rfl
@[simp] theorem ev_mPart {f : M D} {env : DEnv} : mPart (some f) env = (f env).bind fun p => (optR (prtI p.1)).map fun d => (d, p.2) := by
  show (f env).bind _ = _
  congr 1; funext p; cases p with | mk d e => cases d <;> rfl
@[simp] theorem ev_prtI {i : Int} : prtI (.int i) = some (some i) := rfl
@[simp] theorem ev_gSlS {f : M D} {ml mh : M (Option Int)} {env : DEnv} : gSlS f ml mh env = (f env).bind fun p => (ml p.2).bind fun q => (mh q.2).bind fun r => (optR (sliS p.1 q.1 r.1)).map fun d => (d, r.2) := by
  unfold gSlS
  congr 1; funext p; congr 1; funext q; congr 1; funext r
  obtain ⟨d, e⟩ := p
  cases d <;> first | rfl | (rename_i z; by_cases h : z.length ≤ sizeLine <;> simp [sliS, h])
@[simp] theorem ev_gSlT {f : M D} {ml mh : M (Option Int)} {env : DEnv} : gSlT f ml mh env = (f env).bind fun p => (ml p.2).bind fun q => (mh q.2).bind fun r => (optR (sliT p.1 q.1 r.1)).map fun d => (d, r.2) := by
  unfold gSlT
  congr 1; funext p; congr 1; funext q; congr 1; funext r
  cases p with | mk d e => cases d <;> rfl
@[simp] theorem ev_gSlL {f : M D} {ml mh : M (Option Int)} {env : DEnv} : gSlL f ml mh env = (f env).bind fun p => (ml p.2).bind fun q => (mh q.2).bind fun r => (optR (sliL p.1 q.1 r.1)).map fun d => (d, r.2) := by
  unfold gSlL
  congr 1; funext p; congr 1; funext q; congr 1; funext r
  unfold sliL
  cases hLst p.1 <;> rfl
@[simp] theorem ev_gSl3 {f : M D} {ml mh ms : M (Option Int)} {env : DEnv} : gSl3 f ml mh ms env = (f env).bind fun p => (ml p.2).bind fun q => (mh q.2).bind fun r => (ms r.2).bind fun w => (optR (sliK p.1 q.1 r.1 w.1)).map fun d => (d, w.2) := by
  unfold gSl3
  congr 1; funext p; congr 1; funext q; congr 1; funext r; congr 1; funext w
  obtain ⟨d, e⟩ := p
  obtain ⟨k, e2⟩ := w
  cases d <;> cases k <;> first | rfl | (rename_i z k; by_cases h : 0 < k ∧ (cutStep z q.1 r.1 k).length ≤ sizeLine <;> simp [sliK, h])
theorem ev_sliS {z : Str} {l h : Option Int} (hz : z.length ≤ sizeLine) : sliS (.str z) l h = some (.str (cutS z l h)) := if_pos hz
@[simp] theorem ev_sliT {ds : List D} {l h : Option Int} : sliT (.tup ds) l h = some (.tup (cutD ds l h)) := rfl
@[simp] theorem ev_sliL {ds : List D} {l h : Option Int} : sliL (.lst ds) l h = some (.ow (cutD ds l h)) := rfl
theorem ev_sliK {z : Str} {l h : Option Int} {k : Int} (hk : 0 < k) (hz : (cutStep z l h k).length ≤ sizeLine) : sliK (.str z) l h (some k) = some (.str (cutStep z l h k)) := if_pos ⟨hk, hz⟩
noncomputable abbrev tx (l : List Nat) : Str := ⟨l.toArray⟩
theorem tx_eta (x : Str) : tx x.cps.toList = x := by cases x; simp
@[simp] theorem tx_list (l : List Nat) : (tx l).cps.toList = l := by simp
@[simp] theorem tx_len (l : List Nat) : (tx l).length = l.length := by show l.toArray.size = _; simp
theorem tx_inj {a b : List Nat} (h : tx a = tx b) : a = b := by have := congrArg (fun x : Str => x.cps.toList) h; simpa using this
theorem tx_app (a b : List Nat) : tx a ++ tx b = tx (a ++ b) := by
  show (⟨a.toArray ++ b.toArray⟩ : Str) = _
  simp
theorem sgn_tx (c : Nat) : sgn c = tx [c] := rfl
theorem cutS_tx (l : List Nat) (a b : Option Int) : cutS (tx l) a b = tx ((l.drop (HT.sIx l.length 0 a)).take (HT.sIx l.length l.length b - HT.sIx l.length 0 a)) := by
  unfold cutS
  rw [tx_len, tx_list]
theorem sIx_none (n d : Nat) : HT.sIx n d none = d := rfl
theorem sIx_pos {n d : Nat} {k : Int} (h : 0 ≤ k) : HT.sIx n d (some k) = min k.toNat n := by
  show (if k < 0 then (k + (n : Int)).toNat else min k.toNat n) = _
  rw [if_neg (by omega)]
theorem sIx_neg {n d : Nat} {k : Int} (h : k < 0) : HT.sIx n d (some k) = (k + (n : Int)).toNat := by
  show (if k < 0 then (k + (n : Int)).toNat else min k.toNat n) = _
  rw [if_pos h]
theorem AS_rise : AS.Pairwise (· < ·) := by decide +kernel
structure OkSg (l : List Nat) : Prop where
  ne : l ≠ []
  up : l.Pairwise (· < ·)
  sub : ∀ x ∈ l, x ∈ AS
theorem OkSg.take {l : List Nat} (h : OkSg l) {n : Nat} (hn : 1 ≤ n) : OkSg (l.take n) := by
  refine ⟨?_, h.up.sublist (List.take_sublist n l), fun x hx => h.sub x (List.mem_of_mem_take hx)⟩
  intro z
  have := h.ne
  cases l with
  | nil => exact this rfl
  | cons a r => cases n with
    | zero => omega
    | succ n => simp at z
theorem steps_ok {a b : Nat} (ha : a < 94) : OkSg (cutStep asS (some (a : Int)) none ((b : Int) + 1)).cps.toList := by
  have hl : asS.length = 94 := by decide +kernel
  have hs : asS.cps.size = 94 := hl
  have h94 : AS.length = 94 := AS_len
  have hAS : AS = asS.cps.toList := rfl
  unfold cutStep
  split
  · refine ⟨?_, AS_rise, fun x hx => hx⟩
    intro z
    rw [← hAS] at z
    rw [z] at h94
    cases h94
  · have e : Builtin.Str.strSliceIndices (some (a : Int)) none ((b : Int) + 1) asS.length = (List.range ((94 - (a:Int) + ((b : Int) + 1) - 1) / ((b : Int) + 1)).toNat).map fun (k : Nat) => ((a : Int) + ((b : Int) + 1) * (k : Int)).toNat := by
      unfold Builtin.Str.strSliceIndices sliceRange
      rw [hl]
      have p : (b : Int) + 1 > 0 := by omega
      have q : ¬ ((a : Int) < 0) := by omega
      simp only [p, q, if_true, if_false]
      have m1 : max 0 (min (a : Int) (94 : Nat)) = (a : Int) := by omega
      rw [m1, if_pos (by omega)]
      rfl
    rw [e]
    show OkSg (List.filterMap (fun x => asS.cps[x]?) _)
    refine ⟨?_, ?_, ?_⟩
    · generalize hc : ((94 - (a:Int) + ((b : Int) + 1) - 1) / ((b : Int) + 1)).toNat = c
      have hc1 : 1 ≤ c := by
        have : 1 ≤ (94 - (a:Int) + ((b : Int) + 1) - 1) / ((b : Int) + 1) := by
          apply Int.le_ediv_of_mul_le (by omega)
          omega
        omega
      obtain ⟨c, rfl⟩ : ∃ d, c = d + 1 := ⟨c - 1, by omega⟩
      rw [List.range_succ_eq_map]
      simp [hs, ha]
    · rw [List.pairwise_filterMap, List.pairwise_map]
      refine List.pairwise_lt_range.imp ?_
      intro i j hij x hx y hy
      have hp := List.pairwise_iff_getElem.mp AS_rise
      rw [← Array.getElem?_toList] at hx hy
      obtain ⟨h1, e1⟩ := List.getElem?_eq_some_iff.mp hx
      obtain ⟨h2, e2⟩ := List.getElem?_eq_some_iff.mp hy
      rw [← e1, ← e2]
      refine hp _ _ h1 h2 ?_
      have : ((b : Int) + 1) * (i : Int) < ((b : Int) + 1) * (j : Int) := Int.mul_lt_mul_of_pos_left (by omega) (by omega)
      have : 0 ≤ ((b : Int) + 1) * (i : Int) := Int.mul_nonneg (by omega) (by omega)
      omega
    · intro x hx
      obtain ⟨i, _, hi⟩ := List.mem_filterMap.mp hx
      rw [← Array.getElem?_toList] at hi
      exact List.mem_of_getElem? hi
structure WSp where
  signs : List Nat
  least : Int
  most : Int
  width : Int
  fill : Nat
  side : Str
  strict : Bool
noncomputable def WSp.d (s : WSp) : D := .tup [.str "word", .str (tx s.signs), .int s.least, .int s.most, .int s.width, .str (sgn s.fill), .str s.side, .bl s.strict]
structure WSp.Ok (s : WSp) : Prop where
  signs : OkSg s.signs
  least : 0 ≤ s.least ∧ s.least ≤ s.most
  most : s.most ≤ 24
  width : 0 ≤ s.width ∧ s.width ≤ 40
  fill : s.fill ∈ AS
  side : s.side ∈ sides3
theorem up_len : ∀ (l : List Nat) (m n : Nat), l.Pairwise (· < ·) → (∀ x ∈ l, m ≤ x ∧ x < n) → l.length ≤ n - m
  | [], m, n, _, _ => Nat.zero_le _
  | a :: r, m, n, h, q => by
    have p := List.pairwise_cons.mp h
    have hm := q a (List.mem_cons_self ..)
    have := up_len r (a + 1) n p.2 fun x hx => ⟨p.1 x hx, (q x (List.mem_cons_of_mem _ hx)).2⟩
    simp only [List.length_cons]
    omega
theorem AS_low : ∀ x ∈ AS, 32 ≤ x ∧ x < 127 := by decide +kernel
theorem OkSg.len {l : List Nat} (h : OkSg l) : l.length ≤ 95 := up_len l 32 127 h.up fun x hx => AS_low x (h.sub x hx)
theorem steps_txt {a b : Int} (ha : 0 ≤ a) (ha2 : a < 94) (hb : 0 ≤ b) : ∃ l, OkSg l ∧ cutStep asS (some a) none (1 + b) = tx l := by
  obtain ⟨m, rfl⟩ := Int.eq_ofNat_of_zero_le ha
  obtain ⟨n, rfl⟩ := Int.eq_ofNat_of_zero_le hb
  rw [Int.add_comm]
  exact ⟨_, steps_ok (b := n) (by omega), (tx_eta _).symm⟩
theorem e_word_spec (c o : Int) : ∃ s : WSp, s.Ok ∧ F__law_word_spec [.int c, .int o, .int 0] = .ok (.fz s.d) := by
  have lo := fun c s m hm => pick_lo c s m hm
  have hi := fun c s m hm => pick_hi c s m hm
  have K51 := e_pick c 51 94 (by decide) (by decide)
  have K52 := e_pick c 52 9 (by decide) (by decide)
  have K53 := e_pick c 53 94 (by decide) (by decide)
  have K54 := e_pick o 54 25 (by decide) (by decide)
  have K55 := e_pick o 55 25 (by decide) (by decide)
  have K59 := e_pick o 59 3 (by decide) (by decide)
  have K60 := e_pick o 60 40 (by decide) (by decide)
  have K61 := e_pick o 61 3 (by decide) (by decide)
  have K62 := e_pick o 62 3 (by decide) (by decide)
  have K63 := e_pick o 63 3 (by decide) (by decide)
  obtain ⟨x, mx, qx⟩ := e_drawn_sign o 56 (by decide)
  have a1 := lo c 51 94 (by decide); have a2 := hi c 51 94 (by decide)
  have b1 := lo c 52 9 (by decide); have b2 := hi c 52 9 (by decide)
  have n1 := lo c 53 94 (by decide); have n2 := hi c 53 94 (by decide)
  have l1 := lo o 54 25 (by decide); have l2 := hi o 54 25 (by decide)
  have m1 := lo o 55 25 (by decide); have m2 := hi o 55 25 (by decide)
  have w1 := lo o 60 40 (by decide); have w2 := hi o 60 40 (by decide)
  obtain ⟨sd, md, qd⟩ := ix_str (xs := sides3) (j := pick o 62 3) (lo _ _ _ (by decide)) (hi _ _ _ (by decide))
  obtain ⟨l, hl, ql⟩ := steps_txt a1 a2 b1
  have hst : (cutStep asS (some (pick c 51 94)) none (1 + pick c 52 9)).length ≤ sizeLine := by
    rw [ql, tx_len]; exact Nat.le_trans hl.len (by rw [sizeLine_eq]; omega)
  have hsg := hl.take (n := (1 + pick c 53 94).toNat) (by omega)
  have qcut : cutS (tx l) none (some (1 + pick c 53 94)) = tx (l.take (1 + pick c 53 94).toNat) := by
    rw [cutS_tx, sIx_none, sIx_pos (by omega)]
    simp only [List.drop_zero, Nat.sub_zero]
    congr 1
    rw [List.take_eq_take_iff]; omega
  generalize l.take (1 + pick c 53 94).toNat = sg at hsg qcut
  have hsl := hsg.len
  have hsn : 0 < sg.length := List.length_pos_iff.mpr hsg.ne
  obtain ⟨f0, mf0, qf0⟩ := hIxS (z := tx sg) (j := 0) (by rw [tx_len]; omega) (by decide) (by rw [tx_list]; omega)
  have qf1 : ∃ f1 ∈ sg, hIx (.str (tx sg)) (.int (-1)) = some (.str (sgn f1)) := by
    refine ⟨sg[sg.length - 1], List.getElem_mem _, ?_⟩
    show (if (tx sg).length ≤ sizeLine then (L2.atI (tx sg).cps.toList (-1)).map fun c => D.str (sgn c) else none) = _
    rw [if_pos (small_len (by rw [tx_len]; omega)), tx_list]
    have := atI_neg (xs := sg) (j := 1) (by decide) (by omega)
    rw [show (-1 : Int) = -((1 : Nat) : Int) from rfl, this, List.getElem?_eq_getElem (by omega)]; rfl
  obtain ⟨f1, mf1, qf1⟩ := qf1
  rw [tx_list] at mf0
  obtain ⟨fl, mfl, qfl⟩ := ix_str (xs := [sgn f0, sgn x, sgn f1]) (j := pick o 59 3) (lo _ _ _ (by decide)) (hi _ _ _ (by decide))
  have hfl : ∃ f ∈ AS, fl = sgn f := by
    simp only [List.mem_cons, List.not_mem_nil, or_false] at mfl
    rcases mfl with h | h | h
    · exact ⟨f0, hsg.sub _ mf0, h⟩
    · exact ⟨x, mx, h⟩
    · exact ⟨f1, hsg.sub _ mf1, h⟩
  obtain ⟨f, mf, rfl⟩ := hfl
  have hmost : ∃ k : Int, k = (if pick o 54 25 + pick o 55 25 < 24 then pick o 54 25 + pick o 55 25 else 24) := ⟨_, rfl⟩
  obtain ⟨k, hk⟩ := hmost
  obtain ⟨wd, mw, qw⟩ := ix_int (xs := [0, 1 + pick o 60 40, k]) (j := pick o 61 3) (lo _ _ _ (by decide)) (hi _ _ _ (by decide))
  simp only [sides3, List.map_cons, List.map_nil] at qd qfl qw
  refine ⟨⟨sg, pick o 54 25, k, wd, f, sd, decide (pick o 63 3 = 0)⟩, ⟨hsg, ⟨l1, ?_⟩, ?_, ?_, mf, md⟩, ?_⟩
  · show pick o 54 25 ≤ k; split at hk <;> omega
  · show k ≤ 24; split at hk <;> omega
  · simp at mw; show 0 ≤ wd ∧ wd ≤ 40; split at hk <;> omega
  · unfold F__law_word_spec WSp.d
    have q1 := ev_sliK (z := asS) (l := some (pick c 51 94)) (h := none) (k := 1 + pick c 52 9) (by omega) hst
    have q2 := ev_sliS (z := tx l) (l := none) (h := some (1 + pick c 53 94)) (small_len (by rw [tx_len]; have := hl.len; omega))
    simp -implicitDefEqProofs [q1, q2, gIxN, cLst, K51, K52, K53, K54, K55, K59, K60, K61, K62, K63, qx, ql, hst, qcut, qf0, qf1, qfl, qw, qd, ← hk]
end DL
namespace DL
open PySem PySem.Spec PyProof.Rows L2
theorem compL_run {g : D → SM} {t : M Bool} {f : M D} {own : List Nat} (I : DEnv → Prop) (p : D → Bool) (y : D → D) : ∀ (xs : List D) (acc : List D) (e : DEnv), I e → acc.length + xs.length ≤ sizeLine →
    (∀ x ∈ xs, ∀ e, I e → ∃ e1 e2, g x e = .ok (.nx e1) ∧ t e1 = .ok (p x, e2) ∧ (p x = false → I (wipeD e2 own)) ∧ (p x = true → ∃ e3, f e2 = .ok (y x, e3) ∧ I (wipeD e3 own))) →
    ∃ e', I e' ∧ compL g t f own xs acc e = .ok (acc ++ (xs.filter p).map y, e')
  | [], acc, e, hI, _, _ => ⟨e, hI, by simp [compL]⟩
  | x :: xs, acc, e, hI, hl, h => by
    obtain ⟨e1, e2, q1, q2, q3, q4⟩ := h x (List.mem_cons_self ..) e hI
    simp only [List.length_cons] at hl
    unfold compL
    rw [q1]
    simp only [noEx, Res.bind]
    rw [q2]
    simp only [noEx, Res.bind]
    cases hp : p x with
    | false =>
      obtain ⟨e', i', z⟩ := compL_run I p y xs acc _ (q3 hp) (by omega) fun x hx => h x (List.mem_cons_of_mem _ hx)
      refine ⟨e', i', ?_⟩
      rw [if_neg (by simp), z, List.filter_cons_of_neg (by simp [hp])]
    | true =>
      obtain ⟨e3, q5, q6⟩ := q4 hp
      obtain ⟨e', i', z⟩ := compL_run I p y xs (acc ++ [y x]) _ q6 (by simp; omega) fun x hx => h x (List.mem_cons_of_mem _ hx)
      refine ⟨e', i', ?_⟩
      rw [if_pos rfl, q5]
      simp only [noEx, Res.bind]
      rw [if_pos (by omega), z, List.filter_cons_of_pos hp]
      simp
theorem forL_run {g : D → SM} {T : SM} (I : Nat → DEnv → Prop) : ∀ (xs : List D) (j : Nat) (e : DEnv), I j e →
    (∀ i (h : i < xs.length) e, I (j + i) e → ∃ e1 e2, g xs[i] e = .ok (.nx e1) ∧ (T e1 = .ok (.nx e2) ∨ T e1 = .ok (.ct e2)) ∧ I (j + i + 1) e2) →
    ∃ e', forL g T xs e = .ok (.nx e') ∧ I (j + xs.length) e'
  | [], j, e, hI, _ => ⟨e, rfl, hI⟩
  | x :: xs, j, e, hI, h => by
    obtain ⟨e1, e2, q1, q2, q3⟩ := h 0 (by simp) e hI
    obtain ⟨e', z, i'⟩ := forL_run I xs (j + 1) e2 q3 fun i hi e he => by
      have := h (i + 1) (by simpa using hi) e (by rw [show j + (i + 1) = j + 1 + i by omega]; exact he)
      rw [show j + (i + 1) + 1 = j + 1 + i + 1 by omega] at this
      exact this
    refine ⟨e', ?_, by rw [List.length_cons, show j + (xs.length + 1) = j + 1 + xs.length by omega]; exact i'⟩
    unfold forL
    simp only [List.getElem_cons_zero] at q1
    rw [q1]
    simp only [Res.bind]
    rcases q2 with q2 | q2 <;> rw [q2] <;> exact z
@[simp] theorem ev_sFor {r : M (List D)} {g : D → SM} {T : SM} {env : DEnv} : sFor r g T env = (r env).bind fun p => forL g T p.1 p.2 := rfl
@[simp] theorem ev_mYes {env : DEnv} : mYes env = .ok (true, env) := rfl
@[simp] theorem ev_gComp {r : M (List D)} {g : D → SM} {t : M Bool} {f : M D} {own : List Nat} {env : DEnv} : gComp r g t f own env = (r env).bind fun p =>
  if own.all (fun i => plainC p.2[i]?) = true then (compL g t f own p.1 [] (wipeD p.2 own)).map fun q => (.ow q.1, restD p.2 q.2 own) else .stuck := rfl
theorem rngD_len : ∀ (n : Nat) (i : Int), (rngD i n).length = n := by
  intro n i; unfold rngD; simp
end DL
namespace DL
open PySem PySem.Spec PyProof.Rows L2
noncomputable def AN : List Nat := AS.drop 1
theorem AN_len : AN.length = 93 := by unfold AN; rw [List.length_drop, AS_len]
theorem AN_up : AN.Pairwise (· < ·) := AS_rise.sublist (List.drop_sublist 1 AS)
theorem AN_low : ∀ x ∈ AN, 33 ≤ x ∧ x < 127 := by decide +kernel
theorem AN_sub : ∀ x ∈ AN, x ∈ AS := fun x h => List.mem_of_mem_drop h
theorem cut_AN : cutS asS (some 1) none = tx AN := by
  have e : asS = tx AS := (tx_eta asS).symm
  rw [e, cutS_tx, sIx_none, sIx_pos (by decide), AS_len]
  show tx ((AS.drop 1).take 93) = _
  rw [List.take_of_length_le (by rw [List.length_drop, AS_len]; omega)]
  rfl
theorem ix_AN {j : Int} (h0 : 0 ≤ j) (h1 : j < 93) : ∃ c ∈ AN, hIx (.str (tx AN)) (.int j) = some (.str (sgn c)) ∧ AN[j.toNat]? = some c := by
  obtain ⟨c, e, m⟩ := atI_of (xs := AN) h0 (by rw [AN_len]; exact h1)
  refine ⟨c, List.mem_of_getElem? m, ?_, m⟩
  show (if (tx AN).length ≤ sizeLine then (L2.atI (tx AN).cps.toList j).map fun c => D.str (sgn c) else none) = _
  rw [if_pos (small_len (by rw [tx_len, AN_len]; omega)), tx_list, e]; rfl
theorem join_sgn (l : List Nat) : Txt.join "" (l.map sgn) = tx l := by
  rw [TL.join_eq]
  induction l with
  | nil => rfl
  | cons a r ih => cases r with
    | nil => rfl
    | cons b r =>
      show sgn a ++ ("" : Str) ++ Str.join "" ((b :: r).map sgn) = _
      rw [ih]
      show (⟨#[a] ++ #[] ++ (b :: r).toArray⟩ : Str) = _
      simp
theorem sum_sgn : ∀ l : List Nat, ((l.map sgn).map (·.length)).sum = l.length
  | [] => rfl
  | a :: r => by
    rw [List.map_cons, List.map_cons, List.sum_cons, sum_sgn r, List.length_cons]
    show 1 + _ = _
    omega
theorem hJoin_sgn {l : List Nat} (h : l.length ≤ 1000) : hJoin (.str "") [.lst (l.map fun c => D.str (sgn c))] = some (.str (tx l)) := by
  have e : (l.map fun c => D.str (sgn c)) = (l.map sgn).map D.str := by rw [List.map_map]; rfl
  rw [e]
  show (strsOf ((l.map sgn).map D.str)).bind _ = _
  rw [strsOf_map]
  show (if _ then _ else _) = _
  rw [if_pos, join_sgn]
  rw [sum_sgn]
  have : ("" : Str).length = 0 := rfl
  rw [this, List.length_map, Nat.mul_zero, Nat.add_zero]; omega
structure OkNm (l : List Nat) : Prop where
  lo : 1 ≤ l.length
  hi : l.length ≤ 12
  sub : ∀ x ∈ l, x ∈ AN
structure OkNms (ls : List (List Nat)) : Prop where
  lo : 1 ≤ ls.length
  hi : ls.length ≤ 12
  nd : ls.Nodup
  ok : ∀ l ∈ ls, OkNm l
/-- the name of turn k -/
noncomputable def nmOf (b : List Nat) (way at_ size : Int) (s : Nat → Nat) (k : Nat) : List Nat :=
  if way = 0 then b.take (k + 1)
  else if way = 1 then b.take (min at_.toNat (size.toNat - 1)) ++ [s k] ++ (b.take size.toNat).drop (min at_.toNat (size.toNat - 1) + 1)
  else b.take k ++ [48]
theorem nm_ok {b : List Nat} {way at_ size : Int} {s : Nat → Nat} {m : Nat} (hb : b.length = 12) (hbs : ∀ x ∈ b, x ∈ AN) (ha : 0 ≤ at_) (hz : 1 ≤ size) (hz2 : size ≤ 12) (hs : ∀ k, s k ∈ AN)
    (hm : m ≤ 12) (hm1 : 1 ≤ m) (hi : ∀ i j, i < m → j < m → s i = s j → i = j) : OkNms ((List.range m).map (nmOf b way at_ size s)) := by
  have len : ∀ k, k < 12 → (nmOf b way at_ size s k).length = if way = 1 then size.toNat else k + 1 := by
    intro k hk
    unfold nmOf
    split
    · rw [if_neg (by omega)]; simp; omega
    · split
      · simp; omega
      · simp; omega
  refine ⟨by simpa using hm1, by simpa using hm, ?_, ?_⟩
  · rw [List.nodup_iff_pairwise_ne, List.pairwise_map]
    refine List.nodup_range.imp_of_mem ?_
    intro i j mi mj ne e
    have hi' := List.mem_range.mp mi
    have hj' := List.mem_range.mp mj
    by_cases h1 : way = 1
    · unfold nmOf at e
      rw [if_neg (by omega), if_pos h1, if_neg (by omega), if_pos h1] at e
      have := List.append_cancel_right e
      have := List.append_cancel_left this
      exact ne (hi i j hi' hj' (by simpa using this))
    · have e2 := congrArg List.length e
      rw [len i (by omega), len j (by omega), if_neg h1, if_neg h1] at e2
      omega
  · intro l hl
    obtain ⟨k, mk, rfl⟩ := List.mem_map.mp hl
    have hk := List.mem_range.mp mk
    have hl := len k (by omega)
    refine ⟨?_, ?_, ?_⟩
    · rw [hl]; split <;> omega
    · rw [hl]; split <;> omega
    · intro x hx
      unfold nmOf at hx
      split at hx
      · exact hbs x (List.mem_of_mem_take hx)
      · split at hx
        · rcases List.mem_append.mp hx with hx | hx
          · rcases List.mem_append.mp hx with hx | hx
            · exact hbs x (List.mem_of_mem_take hx)
            · rw [List.mem_singleton.mp hx]; exact hs k
          · exact hbs x (List.mem_of_mem_take (List.mem_of_mem_drop hx))
        · rcases List.mem_append.mp hx with hx | hx
          · exact hbs x (List.mem_of_mem_take hx)
          · rw [List.mem_singleton.mp hx]; decide +kernel
theorem turn_ok {ls : List (List Nat)} (h : OkNms ls) (t : Nat) : OkNms (ls.drop t ++ ls.take t) := by
  have p : (ls.drop t ++ ls.take t).Perm ls := (List.perm_append_comm).trans (by rw [List.take_append_drop])
  refine ⟨by rw [p.length_eq]; exact h.lo, by rw [p.length_eq]; exact h.hi, p.nodup_iff.mpr h.nd, fun l hl => h.ok l (p.mem_iff.mp hl)⟩
end DL
namespace DL
open PySem PySem.Spec PyProof.Rows L2
theorem ev_gBM {ty : D → Bool} {h : D → List D → Option D} {f : M D} {r : M (List D)} {env : DEnv} : gBM ty h f r env = (f env).bind fun p => if ty p.1 = true then (r p.2).bind fun q => (optR (h p.1 q.1)).map fun d => (d, q.2) else .stuck := rfl
theorem asS_small : asS.length ≤ sizeLine := small_len (by rw [show asS.length = 94 from by decide +kernel]; omega)
@[simp] theorem own_no : Cell.no.own = false := rfl
@[simp] theorem own_fz {d : D} : (Cell.fz d).own = false := rfl
noncomputable def Pl (c : Cell) : Prop := c = .no ∨ ∃ d, c = .fz d
theorem setC_pl {c c0 : Cell} {e : DEnv} (h : Pl c0) : setC 0 c (c0 :: e) = .ok (.nx (c :: e)) := by
  rcases h with rfl | ⟨d, rfl⟩ <;> rfl
noncomputable abbrev nmBody : SM := (sSeq (sSet 11 (mMap Cell.fz (mOpt2 hIx (gVar 2) (mOpt2 hMod (mOpt2 hAdd (mOpt Cell.toD (gCall F__law_pick (aCons (gVar 0) (aCons (gC (.int 87)) (aCons (gC (.int 93)) aNil))))) (mOpt2 hMul (gVar 9) (gVar 7))) (gC (.int 93)))))) (sIf (mOpt2 hEqS (gVar 4) (gC (.int 0))) (sDrop (gAppend 8 (gSlS (gVar 3) (mPart none) (mPart (some (mOpt2 hAdd (gVar 9) (gC (.int 1)))))))) (sIf (mOpt2 hEqS (gVar 4) (gC (.int 1))) (sDrop (gAppend 8 (mOpt2 hAdd (mOpt2 hAdd (gSlS (gVar 3) (mPart none) (mPart (some (mOpt hMin2 (aCons (gVar 5) (aCons (mOpt2 hSub (gVar 6) (gC (.int 1))) aNil)))))) (gVar 11)) (gSlS (gVar 3) (mPart (some (mOpt2 hAdd (mOpt hMin2 (aCons (gVar 5) (aCons (mOpt2 hSub (gVar 6) (gC (.int 1))) aNil))) (gC (.int 1))))) (mPart (some (gVar 6))))))) (sDrop (gAppend 8 (mOpt2 hAdd (gSlS (gVar 3) (mPart none) (mPart (some (gVar 9)))) (gC (.str "0"))))))))
noncomputable abbrev nmComp : M D := (mOpt2 hIx (gVar 2) (mOpt Cell.toD (gCall F__law_pick (aCons (gVar 0) (aCons (mOpt2 hAdd (gC (.int 70)) (gVar 9)) (aCons (gC (.int 93)) aNil))))))
noncomputable def baseOf (c : Int) : List Nat := (List.range 12).map fun k => AN.getD (pick c (70 + (k : Nat)) 93).toNat 0
noncomputable def signOf (c st : Int) (k : Nat) : Nat := AN.getD ((pick c 87 93 + k * st) % 93).toNat 0
theorem getD_AN {j : Int} (h0 : 0 ≤ j) (h1 : j < 93) : AN.getD j.toNat 0 ∈ AN ∧ hIx (.str (tx AN)) (.int j) = some (.str (sgn (AN.getD j.toNat 0))) := by
  obtain ⟨c, m, q, e⟩ := ix_AN h0 h1
  have : AN.getD j.toNat 0 = c := by rw [List.getD_eq_getElem?_getD, e]; rfl
  rw [this]; exact ⟨m, q⟩
theorem baseOf_len (c : Int) : (baseOf c).length = 12 := by simp [baseOf]
theorem baseOf_sub (c : Int) : ∀ x ∈ baseOf c, x ∈ AN := by
  intro x hx
  obtain ⟨k, _, rfl⟩ := List.mem_map.mp hx
  exact (getD_AN (pick_lo _ _ _ (by decide)) (pick_hi _ _ _ (by decide))).1
theorem nm_comp (c : Int) (m : Nat) : compL (gtName 9) mYes nmComp [9] (rngD 0 12) [] [Cell.fz (D.int c), Cell.fz (D.int m), Cell.fz (D.str (tx AN)), .no, .no, .no, .no, .no, .no, .no, .no, .no]
    = .ok ((baseOf c).map fun x => D.str (sgn x), [Cell.fz (D.int c), Cell.fz (D.int m), Cell.fz (D.str (tx AN)), .no, .no, .no, .no, .no, .no, .no, .no, .no]) := by
  obtain ⟨e', he, q⟩ := compL_run (g := gtName 9) (t := mYes) (f := nmComp) (own := [9]) (fun e => e = [Cell.fz (D.int c), Cell.fz (D.int m), Cell.fz (D.str (tx AN)), .no, .no, .no, .no, .no, .no, .no, .no, .no]) (fun _ => true)
    (fun d => match d with | .int k => .str (sgn (AN.getD (pick c (70 + k) 93).toNat 0)) | _ => .non) (rngD 0 12) [] _ rfl (by rw [rngD_len, sizeLine_eq]; show 0 + 12 ≤ 16777216; omega) (by
      intro x hx e he
      obtain ⟨k, hk, rfl⟩ := List.mem_map.mp hx
      subst he
      have K := e_pick c (70 + (k : Int)) 93 (by omega) (by decide)
      have A := (getD_AN (pick_lo c (70 + (k : Int)) 93 (by decide)) (pick_hi _ _ _ (by decide))).2
      refine ⟨_, _, rfl, rfl, (fun z => by cases z), fun _ => ⟨[Cell.fz (D.int c), Cell.fz (D.int m), Cell.fz (D.str (tx AN)), .no, .no, .no, .no, .no, .no, .fz (.int (0 + (k : Int))), .no, .no], ?_, ?_⟩⟩

      · simp -implicitDefEqProofs [nmComp, K, A]
      · rfl)
  subst he
  rw [q]
  rfl
/-- the cells while the names are made: j of them -/
noncomputable def nmEnv (c : Int) (m : Nat) (st : Int) (j : Nat) (a b : Cell) : DEnv :=
  [Cell.fz (D.int c), Cell.fz (D.int m), Cell.fz (D.str (tx AN)), Cell.fz (D.str (tx (baseOf c))), Cell.fz (D.int (pick c 83 3)), Cell.fz (D.int (pick c 84 12)), Cell.fz (D.int (1 + pick c 85 12)), Cell.fz (D.int st),
   Cell.ow ((List.range j).map fun k => D.str (tx (nmOf (baseOf c) (pick c 83 3) (pick c 84 12) (1 + pick c 85 12) (signOf c st) k))), a, Cell.no, b]
theorem ev_gAppend8 {c0 c1 c2 c3 c4 c5 c6 c7 c9 c10 c11 : Cell} {ds : List D} {g : M D} {d : D} {e : DEnv} (h : g (c0 :: c1 :: c2 :: c3 :: c4 :: c5 :: c6 :: c7 :: .ow ds :: c9 :: c10 :: c11 :: e) = .ok (d, c0 :: c1 :: c2 :: c3 :: c4 :: c5 :: c6 :: c7 :: .ow ds :: c9 :: c10 :: c11 :: e)) (hl : ds.length < sizeLine) :
    gAppend 8 g (c0 :: c1 :: c2 :: c3 :: c4 :: c5 :: c6 :: c7 :: .ow ds :: c9 :: c10 :: c11 :: e) = .ok (.non, c0 :: c1 :: c2 :: c3 :: c4 :: c5 :: c6 :: c7 :: .ow (ds ++ [d]) :: c9 :: c10 :: c11 :: e) := by
  unfold gAppend
  show Res.bind (g _) _ = _
  rw [h]
  show (if ds.length < sizeLine then _ else _) = _
  rw [if_pos hl]; rfl
theorem tx_zero : ("0" : Str) = tx [48] := rfl
theorem cut_to {l : List Nat} {j : Int} (h : 0 ≤ j) : cutS (tx l) none (some j) = tx (l.take j.toNat) := by
  rw [cutS_tx, sIx_none, sIx_pos h]
  simp only [List.drop_zero, Nat.sub_zero]
  congr 1
  rw [List.take_eq_take_iff]; omega
theorem cut_from_to {l : List Nat} {i j : Int} (hi : 0 ≤ i) (hj : 0 ≤ j) : cutS (tx l) (some i) (some j) = tx ((l.take j.toNat).drop i.toNat) := by
  rw [cutS_tx, sIx_pos hi, sIx_pos hj]
  congr 1
  rw [List.drop_take]
  by_cases h : i.toNat ≤ l.length
  · rw [Nat.min_eq_left h, List.take_eq_take_iff, List.length_drop]; omega
  · rw [List.drop_of_length_le (by omega), List.drop_of_length_le (by omega)]; simp
theorem nm_step {c : Int} {m : Nat} {st : Int} {j : Nat} {a b : Cell} (hst : st ∈ [1, 2, 4, 5, 7, 8]) (hj : j < 12) (ha : Pl a) (hb : Pl b) :
    ∃ e1 b', gtName 9 (.int (0 + (j : Int))) (nmEnv c m st j a b) = .ok (.nx e1) ∧ nmBody e1 = .ok (.nx (nmEnv c m st (j + 1) (.fz (.int (j : Int))) b')) ∧ Pl b' := by
  have st0 : 0 ≤ st ∧ st ≤ 8 := by simp at hst; omega
  have K87 := e_pick c 87 93 (by decide) (by decide)
  have A := (getD_AN (j := (pick c 87 93 + j * st) % 93) (Int.emod_nonneg _ (by decide)) (Int.emod_lt_of_pos _ (by decide))).2
  have M : hMul (.int (j : Int)) (.int st) = some (.int (j * st)) := ev_hMul (.inl (by omega))
  have hw := pick_lo c 83 3 (by decide); have hw2 := pick_hi c 83 3 (by decide)
  have ha0 := pick_lo c 84 12 (by decide); have ha1 := pick_hi c 84 12 (by decide)
  have hz0 := pick_lo c 85 12 (by decide); have hz1 := pick_hi c 85 12 (by decide)
  have bl := baseOf_len c
  have sl : ∀ l h, sliS (.str (tx (baseOf c))) l h = some (.str (cutS (tx (baseOf c)) l h)) := fun l h => ev_sliS (small_len (by rw [tx_len, bl]; omega))
  have q1 : gtName 9 (.int (0 + (j : Int))) (nmEnv c m st j a b) = .ok (.nx (nmEnv c m st j (.fz (.int (j : Int))) b)) := by
    simp -implicitDefEqProofs [nmEnv, setC_pl ha]
  refine ⟨_, .fz (.str (sgn (signOf c st j))), q1, ?_, .inr ⟨_, rfl⟩⟩
  have hl : ((List.range j).map fun k => D.str (tx (nmOf (baseOf c) (pick c 83 3) (pick c 84 12) (1 + pick c 85 12) (signOf c st) k))).length < sizeLine := by rw [List.length_map, List.length_range, sizeLine_eq]; omega
  unfold nmBody nmEnv
  rw [List.range_succ, List.map_append, List.map_singleton]
  simp -implicitDefEqProofs [K87, M, A, setC_pl hb]
  have es : AN[((pick c 87 93 + ↑j * st) % 93).toNat]?.getD 0 = signOf c st j := by unfold signOf; simp
  rw [es]
  generalize hds : (List.range j).map (fun k => D.str (tx (nmOf (baseOf c) (pick c 83 3) (pick c 84 12) (1 + pick c 85 12) (signOf c st) k))) = ds at hl ⊢
  by_cases h0 : pick c 83 3 = 0
  · rw [if_pos h0, ev_gAppend8 (d := .str (tx (nmOf (baseOf c) (pick c 83 3) (pick c 84 12) (1 + pick c 85 12) (signOf c st) j))) ?_ hl]
    · rfl
    · have := cut_to (l := baseOf c) (j := (j : Int) + 1) (by omega)
      rw [show ((j : Int) + 1).toNat = j + 1 by omega] at this
      simp -implicitDefEqProofs [sl, this, nmOf, h0]
  · by_cases h1 : pick c 83 3 = 1
    · rw [if_neg h0, if_pos h1, ev_gAppend8 (d := .str (tx (nmOf (baseOf c) (pick c 83 3) (pick c 84 12) (1 + pick c 85 12) (signOf c st) j))) ?_ hl]
      · rfl
      · have e1 : (if 1 + pick c 85 12 - 1 < pick c 84 12 then 1 + pick c 85 12 - 1 else pick c 84 12) = ((min (pick c 84 12).toNat ((1 + pick c 85 12).toNat - 1) : Nat) : Int) := by split <;> omega
        generalize hmn : min (pick c 84 12).toNat ((1 + pick c 85 12).toNat - 1) = mn at e1
        have t1 := cut_to (l := baseOf c) (j := (mn : Int)) (by omega)
        have t2 := cut_from_to (l := baseOf c) (i := (mn : Int) + 1) (j := 1 + pick c 85 12) (by omega) (by omega)
        rw [show ((mn : Int) + 1).toNat = mn + 1 by omega] at t2
        have g1 : hAdd (.str (tx ((baseOf c).take mn))) (.str (sgn (signOf c st j))) = some (.str (tx ((baseOf c).take mn) ++ sgn (signOf c st j))) := ev_hAddS (by rw [tx_len, sizeLine_eq]; simp [sgn_tx, bl]; omega)
        have g2 : hAdd (.str (tx ((baseOf c).take mn) ++ sgn (signOf c st j))) (.str (tx (((baseOf c).take (1 + pick c 85 12).toNat).drop (mn + 1)))) = some (.str (tx (nmOf (baseOf c) (pick c 83 3) (pick c 84 12) (1 + pick c 85 12) (signOf c st) j))) := by
          rw [sgn_tx, tx_app, ev_hAddS (by rw [tx_len, tx_len, sizeLine_eq]; simp [bl]; omega), tx_app]
          unfold nmOf
          rw [if_neg h0, if_pos h1, hmn]
        simp -implicitDefEqProofs only [ev_mOpt2, ev_gSlS, ev_gVar_s, ev_gVar0_fz, List.getElem?_cons_succ, List.getElem?_cons_zero, ev_mPartN, ev_mPart, ev_mOpt, ev_aCons, ev_aNil, ev_gC, ev_hSub, ev_hMin2, ev_hAdd]
        simp -implicitDefEqProofs [sl, e1, t1, t2, g1, g2]
    · rw [if_neg h0, if_neg h1, ev_gAppend8 (d := .str (tx (nmOf (baseOf c) (pick c 83 3) (pick c 84 12) (1 + pick c 85 12) (signOf c st) j))) ?_ hl]
      · rfl
      · have t1 := cut_to (l := baseOf c) (j := (j : Int)) (by omega)
        have g1 : hAdd (.str (tx ((baseOf c).take j))) (.str "0") = some (.str (tx (nmOf (baseOf c) (pick c 83 3) (pick c 84 12) (1 + pick c 85 12) (signOf c st) j))) := by
          rw [tx_zero, ev_hAddS (by rw [tx_len, tx_len, sizeLine_eq]; simp [bl]; omega), tx_app]
          unfold nmOf
          rw [if_neg h0, if_neg h1]
        simp -implicitDefEqProofs [sl, t1, g1]
end DL
namespace DL
open PySem PySem.Spec PyProof.Rows L2
/-- T gives c back -/
noncomputable def Ret (T : SM) (env : DEnv) (c : Cell) : Prop := ∃ e, T env = .ok (.rt c e)
theorem Ret.sq {T U : SM} {env : DEnv} {c : Cell} (e : DEnv) (h : T env = .ok (.nx e)) (h2 : Ret U e c) : Ret (sSeq T U) env c := by
  obtain ⟨e2, h2⟩ := h2
  exact ⟨e2, by rw [ev_sSeq, h]; exact h2⟩
theorem Ret.first {T U : SM} {env : DEnv} {c : Cell} (h : Ret T env c) : Ret (sSeq T U) env c := by
  obtain ⟨e2, h⟩ := h
  exact ⟨e2, by rw [ev_sSeq, h]; rfl⟩
theorem Ret.ret {m : M Cell} {env : DEnv} {c : Cell} (h : ∃ e, m env = .ok (c, e)) : Ret (sRet m) env c := by
  obtain ⟨e, h⟩ := h
  exact ⟨e, by rw [ev_sRet, h]; rfl⟩
theorem Ret.runs {n k : Nat} {T : SM} {ds : List D} {c : Cell} (hl : ds.length = n) (h : Ret T (ds.map Cell.fz ++ List.replicate k Cell.no) c) : runs n k T ds = .ok c := by
  obtain ⟨e, h⟩ := h
  rw [ev_runs, if_pos hl, h]; rfl
theorem hRng_ok {n : Nat} (h : n < 1000) : hRng1 [.int (n : Int)] = some (rngD 0 n) := by
  unfold hRng1
  simp
  omega
theorem ev_hCat {a b : List D} (h : a.length + b.length ≤ sizeLine) : hCat (.lst a) (.lst b) = some (a ++ b) := by
  unfold hCat
  simp [h]
theorem signOf_mem {c st : Int} {k : Nat} : signOf c st k ∈ AN := (getD_AN (Int.emod_nonneg _ (by decide)) (Int.emod_lt_of_pos _ (by decide))).1
theorem nodup_inj {l : List Nat} (h : l.Nodup) {i j : Nat} (hi : i < l.length) (hj : j < l.length) (e : l.getD i 0 = l.getD j 0) : i = j := by
  rw [List.getD_eq_getElem?_getD, List.getD_eq_getElem?_getD, List.getElem?_eq_getElem hi, List.getElem?_eq_getElem hj] at e
  exact (List.getElem_inj h).mp (by simpa using e)
theorem signOf_inj {c st : Int} (hst : st ∈ [1, 2, 4, 5, 7, 8]) {i j : Nat} (hi : i < 12) (hj : j < 12) (e : signOf c st i = signOf c st j) : i = j := by
  unfold signOf at e
  have n1 := Int.emod_nonneg (pick c 87 93 + i * st) (show (93:Int) ≠ 0 by decide)
  have n2 := Int.emod_lt_of_pos (pick c 87 93 + i * st) (show (0:Int) < 93 by decide)
  have n3 := Int.emod_nonneg (pick c 87 93 + j * st) (show (93:Int) ≠ 0 by decide)
  have n4 := Int.emod_lt_of_pos (pick c 87 93 + j * st) (show (0:Int) < 93 by decide)
  have := nodup_inj (AN_up.imp fun h => by omega) (by rw [AN_len]; omega) (by rw [AN_len]; omega) e
  have e2 : (pick c 87 93 + i * st) % 93 = (pick c 87 93 + j * st) % 93 := by omega
  simp at hst
  rcases hst with rfl | rfl | rfl | rfl | rfl | rfl <;> omega
theorem e_near_names (c : Int) (m : Nat) (h1 : 1 ≤ m) (h2 : m ≤ 12) : ∃ ls, OkNms ls ∧ ls.length = m ∧ F__law_near_names [.int c, .int (m : Int)] = .ok (.ow (ls.map fun l => .str (tx l))) := by
  have K83 := e_pick c 83 3 (by decide) (by decide)
  have K84 := e_pick c 84 12 (by decide) (by decide)
  have K85 := e_pick c 85 12 (by decide) (by decide)
  have K86 := e_pick c 86 6 (by decide) (by decide)
  have K88 := e_pick c 88 (m : Int) (by decide) (by omega)
  have l88 := pick_lo c 88 (m : Int) (by omega); have h88 := pick_hi c 88 (m : Int) (by omega)
  obtain ⟨st, ms, qs⟩ := ix_int (xs := [1, 2, 4, 5, 7, 8]) (j := pick c 86 6) (pick_lo _ _ _ (by decide)) (pick_hi _ _ _ (by decide))
  simp only [List.map_cons, List.map_nil] at qs
  have ok0 := nm_ok (b := baseOf c) (way := pick c 83 3) (at_ := pick c 84 12) (size := 1 + pick c 85 12) (s := signOf c st) (m := m) (baseOf_len c) (baseOf_sub c) (pick_lo _ _ _ (by decide)) (by have := pick_lo c 85 12 (by decide); omega) (by have := pick_hi c 85 12 (by decide); omega) (fun k => signOf_mem) h2 h1 (fun i j hi hj e => signOf_inj ms (by omega) (by omega) e)
  have ok1 := turn_ok ok0 (pick c 88 m).toNat
  obtain ⟨e', qf, hI⟩ := forL_run (g := gtName 9) (T := nmBody) (fun j e => ∃ a b, Pl a ∧ Pl b ∧ e = nmEnv c m st j a b) (rngD 0 m) 0 (nmEnv c m st 0 .no .no) ⟨.no, .no, .inl rfl, .inl rfl, rfl⟩ (by
    rintro i hi e ⟨a, b, ha, hb, rfl⟩
    have hi' : i < 12 := by rw [rngD_len] at hi; omega
    have ex : (rngD 0 m)[i] = .int (0 + (i : Int)) := by simp [rngD]
    obtain ⟨e1, b', q1, q2, q3⟩ := nm_step (c := c) (m := m) (st := st) (j := i) (a := a) (b := b) ms hi' ha hb
    refine ⟨e1, _, by rw [ex, Nat.zero_add]; exact q1, .inl q2, .fz (.int (i : Int)), b', .inr ⟨_, rfl⟩, q3, by rw [Nat.zero_add]⟩)
  obtain ⟨a, b, ha, hb, rfl⟩ := hI
  rw [rngD_len, Nat.zero_add] at qf
  refine ⟨_, ok1, by have := ok0.hi; simp; omega, ?_⟩
  have jn := hJoin_sgn (l := baseOf c) (by rw [baseOf_len]; omega)
  unfold F__law_near_names
  refine Ret.runs rfl (Ret.sq [Cell.fz (D.int c), Cell.fz (D.int m), Cell.fz (D.str (tx AN)), .no, .no, .no, .no, .no, .no, .no, .no, .no] ?_ (Ret.sq [Cell.fz (D.int c), Cell.fz (D.int m), Cell.fz (D.str (tx AN)), Cell.fz (D.str (tx (baseOf c))), .no, .no, .no, .no, .no, .no, .no, .no] ?_ ?_))
  · simp -implicitDefEqProofs [ev_sliS asS_small, cut_AN]
  · have nc := nm_comp c m
    unfold nmComp at nc
    have r12 : hRng1 [.int 12] = some (rngD 0 12) := hRng_ok (n := 12) (by decide)
    simp -implicitDefEqProofs [ev_gBM, isStrD, r12, plainC, wipeD, nc, restD, jn]
  · refine Ret.sq _ (by simp -implicitDefEqProofs [K83]; rfl) (Ret.sq _ (by simp -implicitDefEqProofs [K84]; rfl) (Ret.sq _ (by simp -implicitDefEqProofs [K85]; rfl) (Ret.sq _ (by simp -implicitDefEqProofs [K86, qs]; rfl) (Ret.sq (nmEnv c m st 0 .no .no) (by simp -implicitDefEqProofs [nmEnv]) (Ret.sq (nmEnv c m st m a b) (by
      have r12 := hRng_ok (n := m) (by omega)
      simp -implicitDefEqProofs [nmEnv, r12]
      simp -implicitDefEqProofs [nmEnv] at qf
      exact qf) ?_)))))
    generalize hN : (List.range m).map (nmOf (baseOf c) (pick c 83 3) (pick c 84 12) (1 + pick c 85 12) (signOf c st)) = N at *
    have hNl : N.length = m := by rw [← hN]; simp
    have hC : (List.range m).map (fun k => D.str (tx (nmOf (baseOf c) (pick c 83 3) (pick c 84 12) (1 + pick c 85 12) (signOf c st) k))) = N.map fun l => D.str (tx l) := by rw [← hN, List.map_map]; rfl
    unfold nmEnv
    rw [hC]
    have hp : ∃ t : Nat, pick c 88 m = t ∧ t < m := ⟨(pick c 88 m).toNat, by omega, by omega⟩
    obtain ⟨t, ht, htm⟩ := hp
    rw [ht] at K88 ⊢
    have c1 : cutD (N.map fun l => D.str (tx l)) (some (t : Int)) none = (N.drop t).map fun l => D.str (tx l) := by
      unfold cutD
      rw [sIx_none, sIx_pos (by omega), List.length_map, hNl, ← List.map_drop, ← List.map_take]
      congr 1
      rw [List.take_of_length_le (by rw [List.length_drop]; omega)]
      congr 1; omega
    have c2 : cutD (N.map fun l => D.str (tx l)) none (some (t : Int)) = (N.take t).map fun l => D.str (tx l) := by
      unfold cutD
      rw [sIx_none, sIx_pos (by omega), List.length_map, hNl, ← List.map_drop, ← List.map_take]
      congr 1
      simp; omega
    have hc := ev_hCat (a := (N.map fun l => D.str (tx l)).drop t) (b := (N.map fun l => D.str (tx l)).take t) (by simp [sizeLine_eq]; omega)
    have P9 : ∀ {c0 c1 c2 c3 c4 c5 c6 c7 c8 c9 c11 v : Cell}, setC 10 v [c0, c1, c2, c3, c4, c5, c6, c7, c8, c9, .no, c11] = .ok (.nx [c0, c1, c2, c3, c4, c5, c6, c7, c8, c9, v, c11]) := rfl
    refine Ret.sq _ (by simp -implicitDefEqProofs [K88]; rfl) (Ret.ret ?_)
    simp -implicitDefEqProofs [c1, c2, hc]
end DL
namespace DL
open PySem PySem.Spec PyProof.Rows L2
structure CSp where
  names : List (List Nat)
  width : Int
  fill : Nat
  side : Str
  strict : Bool
noncomputable abbrev nmsD (ls : List (List Nat)) : List D := ls.map fun l => .str (tx l)
noncomputable def CSp.d (s : CSp) : D := .tup [.str "choice", .lst (nmsD s.names), .int s.width, .str (sgn s.fill), .str s.side, .bl s.strict]
structure CSp.Ok (s : CSp) : Prop where
  names : OkNms s.names
  width : 0 ≤ s.width ∧ s.width ≤ 40
  fill : s.fill ∈ AS
  side : s.side ∈ sides3
theorem hIx_last {l : List Nat} (h1 : 1 ≤ l.length) (h2 : l.length ≤ 1000) : ∃ c ∈ l, hIx (.str (tx l)) (.int (-1)) = some (.str (sgn c)) := by
  refine ⟨l[l.length - 1], List.getElem_mem _, ?_⟩
  show (if (tx l).length ≤ sizeLine then (L2.atI (tx l).cps.toList (-1)).map fun c => D.str (sgn c) else none) = _
  rw [if_pos (small_len (by rw [tx_len]; omega)), tx_list]
  have := atI_neg (xs := l) (j := 1) (by decide) (by omega)
  rw [show (-1 : Int) = -((1 : Nat) : Int) from rfl, this, List.getElem?_eq_getElem (by omega)]; rfl
theorem e_choice_spec (c o : Int) : ∃ s : CSp, s.Ok ∧ F__law_choice_spec [.int c, .int o, .int 0] = .ok (.fz s.d) := by
  have K64 := e_pick o 64 12 (by decide) (by decide)
  have K68 := e_pick o 68 3 (by decide) (by decide)
  have K69 := e_pick o 69 40 (by decide) (by decide)
  have K70 := e_pick o 70 3 (by decide) (by decide)
  have K71 := e_pick o 71 3 (by decide) (by decide)
  have K72 := e_pick o 72 3 (by decide) (by decide)
  have l64 := pick_lo o 64 12 (by decide); have h64 := pick_hi o 64 12 (by decide)
  have l69 := pick_lo o 69 40 (by decide); have h69 := pick_hi o 69 40 (by decide)
  obtain ⟨m, hm⟩ : ∃ m : Nat, (m : Int) = 1 + pick o 64 12 := ⟨(1 + pick o 64 12).toNat, by omega⟩
  obtain ⟨ls, hls, hlen, qn⟩ := e_near_names c m (by omega) (by omega)
  rw [hm] at qn
  obtain ⟨x, mx, qx⟩ := e_drawn_sign o 65 (by decide)
  have n0 : ∃ l ∈ ls, ls[0]? = some l := ⟨ls[0]'(by omega), List.getElem_mem _, by simp⟩
  obtain ⟨l0, ml0, q0⟩ := n0
  have n1 : ∃ l ∈ ls, ls[ls.length - 1]? = some l := ⟨ls[ls.length - 1]'(by omega), List.getElem_mem _, by simp⟩
  obtain ⟨l1, ml1, q1⟩ := n1
  have o0 := hls.ok _ ml0
  have o1 := hls.ok _ ml1
  have a0 : L2.atI (nmsD ls) 0 = some (.str (tx l0)) := by
    have := atI_nat (xs := nmsD ls) (j := 0)
    rw [show ((0 : Nat) : Int) = 0 from rfl] at this
    rw [this, List.getElem?_map, q0]; rfl
  have a1 : L2.atI (nmsD ls) (-1) = some (.str (tx l1)) := by
    have := atI_neg (xs := nmsD ls) (j := 1) (by decide) (by simp; omega)
    rw [show (-1 : Int) = -((1 : Nat) : Int) from rfl, this, List.length_map, List.getElem?_map, q1]; rfl
  obtain ⟨f0, mf0, qf0⟩ := hIx_last o0.lo (by have := o0.hi; omega)
  obtain ⟨fl, mfl, qfl⟩ := ix_str (xs := [sgn f0, sgn x, "0"]) (j := pick o 68 3) (pick_lo _ _ _ (by decide)) (pick_hi _ _ _ (by decide))
  have hfl : ∃ f ∈ AS, fl = sgn f := by
    simp only [List.mem_cons, List.not_mem_nil, or_false] at mfl
    rcases mfl with h | h | h
    · exact ⟨f0, AN_sub _ (o0.sub _ mf0), h⟩
    · exact ⟨x, mx, h⟩
    · exact ⟨48, by decide +kernel, h⟩
  obtain ⟨f, mf, rfl⟩ := hfl
  obtain ⟨wd, mw, qw⟩ := ix_int (xs := [0, 1 + pick o 69 40, (l1.length : Int) + 1]) (j := pick o 70 3) (pick_lo _ _ _ (by decide)) (pick_hi _ _ _ (by decide))
  obtain ⟨sd, md, qd⟩ := ix_str (xs := sides3) (j := pick o 71 3) (pick_lo _ _ _ (by decide)) (pick_hi _ _ _ (by decide))
  simp only [sides3, List.map_cons, List.map_nil] at qd qfl qw
  have h1 := o1.hi
  refine ⟨⟨ls, wd, f, sd, decide (pick o 72 3 = 0)⟩, ⟨hls, ?_, mf, md⟩, ?_⟩
  · simp at mw; show 0 ≤ wd ∧ wd ≤ 40; omega
  · have hl1 : hLen [.str (tx l1)] = some (.int l1.length) := by rw [hLenS (by rw [tx_len]; omega), tx_len]
    unfold F__law_choice_spec CSp.d
    refine Ret.runs rfl (Ret.sq [.fz (.int c), .fz (.int o), .fz (.int 0), .ow (nmsD ls), .no, .no, .no] ?_ (Ret.sq [.fz (.int c), .fz (.int o), .fz (.int 0), .ow (nmsD ls), .fz (.str (sgn f)), .no, .no] ?_ (Ret.sq [.fz (.int c), .fz (.int o), .fz (.int 0), .ow (nmsD ls), .fz (.str (sgn f)), .fz (.int wd), .no] ?_
      (Ret.sq [.fz (.int c), .fz (.int o), .fz (.int 0), .ow (nmsD ls), .fz (.str (sgn f)), .fz (.int wd), .fz (.str sd)] ?_ (Ret.ret ?_)))))
    · simp -implicitDefEqProofs [K64, qn]
    · simp -implicitDefEqProofs [K68, gIxN, cLst, a0, qf0, qx, qfl]
    · simp -implicitDefEqProofs [K69, K70, gIxN, cLst, a1, hl1, qw]
    · simp -implicitDefEqProofs [K71, qd]
    · simp -implicitDefEqProofs [K72]
end DL
namespace DL
open PySem PySem.Spec PyProof.Rows L2
noncomputable def lowS : Str := "abcdefghijklmnopqrstuvwxyz"
noncomputable def upS : Str := "ABCDEFGHIJKLMNOPQRSTUVWXYZ"
noncomputable def figS : Str := "0123456789"
noncomputable def setsL : List (Str × Str) := [("lower", lowS), ("upper", upS), ("figures", figS), ("all", tx AN)]
noncomputable def setsD : List D := setsL.map fun p => .tup [.str p.1, .str p.2]
@[simp] theorem e_sets : F__law_sets [] = .ok (.ow setsD) := by
  have hu : hUpper (.str lowS) [] = some (.str upS) := by
    have h1 : lowS.length ≤ 5592405 := by rw [show lowS.length = 26 from by decide +kernel]; omega
    have h2 : Txt.upper lowS = upS := by decide +kernel
    show (if lowS.length ≤ 5592405 then some (D.str (Txt.upper lowS)) else none) = _
    rw [if_pos h1, h2]
  have el : ("abcdefghijklmnopqrstuvwxyz" : Str) = lowS := rfl
  unfold F__law_sets
  refine Ret.runs rfl (Ret.sq [.fz (.str lowS)] ?_ (Ret.ret ?_))
  · simp [el]
  · simp -implicitDefEqProofs [ev_gBM, isStrD, ev_sliS asS_small, cut_AN, hu, setsD, setsL, figS]
noncomputable def NSp.short (s : NSp) : Int := 1 + (s.plc + 1) * (if 0 < s.plc then 1 else 0) + (if s.sign = "plus" ∨ s.sign = "blank" then 1 else 0)
theorem inV_strs (x : Str) (xs : List Str) : inV (.str x) (xs.map V.str) = decide (x ∈ xs) := by
  induction xs with
  | nil => rfl
  | cons a r ih =>
    show (eqV (V.str a) (V.str x) || inV (V.str x) (r.map V.str)) = _
    rw [ih]
    show (decide (a = x) || _) = _
    by_cases h : a = x
    · subst h; simp
    · simp [h, Ne.symm h]
theorem flatDs_strs : ∀ xs : List Str, flatDs (xs.map D.str) = some (xs.map V.str)
  | [] => rfl
  | x :: xs => by
    show (match flatD (.str x), flatDs (xs.map D.str) with | some v, some vs => some (v :: vs) | _, _ => none) = _
    rw [flatDs_strs xs]; rfl
theorem hInQ_tup (x : Str) (xs : List Str) : hInQ (.str x) (.tup (xs.map D.str)) = some (decide (x ∈ xs)) := by
  show (match flatD (.str x), flatDs (xs.map D.str) with | some v, some vs => some (inV v vs) | _, _ => none) = _
  rw [flatDs_strs, ← inV_strs]; rfl
theorem hInQ_lst (x : Str) (xs : List Str) : hInQ (.str x) (.lst (xs.map D.str)) = some (decide (x ∈ xs)) := by
  show (match flatD (.str x), flatDs (xs.map D.str) with | some v, some vs => some (inV v vs) | _, _ => none) = _
  rw [flatDs_strs, ← inV_strs]; rfl
theorem hInL_strs (x : Str) (xs : List Str) : hInL (.str x) (xs.map D.str) = some (decide (x ∈ xs)) := by
  show (match flatD (.str x), flatDs (xs.map D.str) with | some v, some vs => some (inV v vs) | _, _ => none) = _
  rw [flatDs_strs, ← inV_strs]; rfl
noncomputable def minL : List Nat → Nat
  | [] => 0
  | a :: r => r.foldl (fun x y => if y < x then y else x) a
theorem leastI_nat (l : List Nat) (h : l ≠ []) : leastI (l.map fun (n : Nat) => (n : Int)) = some (minL l : Int) := by
  cases l with
  | nil => exact (h rfl).elim
  | cons a r =>
    show some (List.foldl _ (a : Int) (r.map fun (n : Nat) => (n : Int))) = some ((List.foldl _ a r : Nat) : Int)
    congr 1
    clear h
    induction r generalizing a with
    | nil => rfl
    | cons b r ih =>
      simp only [List.map_cons, List.foldl_cons]
      have : (if (b : Int) < (a : Int) then (b : Int) else (a : Int)) = ((if b < a then b else a : Nat) : Int) := by split <;> split <;> omega
      rw [this, ih]
noncomputable def CSp.short (s : CSp) : Int := minL (s.names.map List.length)
theorem hInts_ints : ∀ ns : List Int, hInts (.lst (ns.map D.int)) = some ns := by
  intro ns
  exact intsOf_map ns
theorem Pl.plain {c : Cell} (h : Pl c) : c.own = false := by rcases h with rfl | ⟨d, rfl⟩ <;> rfl
theorem setC_Pl {i : Nat} {c c0 : Cell} {e : DEnv} (h : e[i]? = some c0) (hp : Pl c0) : setC i c e = .ok (.nx (e.set i c)) :=
  setC_at h (by rintro a b d rfl; rcases hp with h | ⟨d, h⟩ <;> cases h)
theorem comp_map {i : Nat} {xs : List D} {f : M D} {r : M (List D)} {env : DEnv} {c : Cell} (y : D → D) (hr : r env = .ok (xs, env)) (hc : env[i]? = some c) (hp : Pl c) (hl : xs.length ≤ sizeLine)
    (hf : ∀ x ∈ xs, f (env.set i (.fz x)) = .ok (y x, env.set i (.fz x))) : gComp r (gtName i) mYes f [i] env = .ok (.ow (xs.map y), env) := by
  have ilt : i < env.length := (List.getElem?_eq_some_iff.mp hc).1
  obtain ⟨e', he, q⟩ := compL_run (g := gtName i) (t := mYes) (f := f) (own := [i]) (fun e => e = env.set i .no) (fun _ => true) y xs [] (env.set i .no) rfl (by simpa using hl) (by
    intro x hx e he
    subst he
    refine ⟨env.set i (.fz x), env.set i (.fz x), ?_, rfl, (fun z => by cases z), fun _ => ⟨_, hf x hx, ?_⟩⟩
    · rw [ev_gtName, setC_Pl (c0 := .no) (by simp [ilt]) (.inl rfl), List.set_set]
    · show ((env.set i (.fz x)).set i .no) = _
      rw [List.set_set])
  subst he
  rw [ev_gComp, hr]
  show (if [i].all (fun i => plainC env[i]?) = true then (compL (gtName i) mYes f [i] xs [] (env.set i .no)).map _ else _) = _
  rw [if_pos (by simp [hc, plainC, hp.plain]), q]
  show Res.ok (Cell.ow _, restD env (env.set i .no) [i]) = _
  have : restD env (env.set i .no) [i] = env := by
    show (match env[i]? with | some c => (env.set i .no).set i c | none => env.set i .no) = env
    rw [hc]
    show (env.set i .no).set i c = env
    rw [List.set_set]
    exact List.ext_getElem? fun j => by
      by_cases h : i = j
      · subst h; rw [List.getElem?_set_self ilt, hc]
      · rw [List.getElem?_set_ne h]
  rw [this, List.filter_eq_self.mpr (fun _ _ => rfl)]
  rfl
theorem e_shortN (s : NSp) (h : s.Ok) : F__law_shortest [s.d] = .ok (.fz (.int s.short)) := by
  have p1 := h.plc
  have m1 : ∀ k : Int, hMul (.int (s.plc + 1)) (.int k) = some (.int ((s.plc + 1) * k)) := fun k => ev_hMul (.inl (by omega))
  have q := hInQ_tup s.sign ["plus", "blank"]
  simp only [List.map_cons, List.map_nil] at q
  unfold F__law_shortest NSp.d NSp.short
  refine Ret.runs rfl (Ret.first ?_)
  simp -implicitDefEqProofs [Ret, q, m1]
theorem e_shortW (s : WSp) : F__law_shortest [s.d] = .ok (.fz (.int s.least)) := by
  unfold F__law_shortest WSp.d
  refine Ret.runs rfl (Ret.sq _ (by simp -implicitDefEqProofs; rfl) (Ret.first ?_))
  simp -implicitDefEqProofs [Ret]
theorem len_nm {ls : List (List Nat)} (h : OkNms ls) : ∀ x ∈ nmsD ls, ∃ l ∈ ls, x = .str (tx l) ∧ hLen [x] = some (.int l.length) := by
  intro x hx
  obtain ⟨l, hl, rfl⟩ := List.mem_map.mp hx
  have := (h.ok l hl).hi
  exact ⟨l, hl, rfl, by rw [hLenS (by rw [tx_len]; omega), tx_len]⟩
noncomputable def lenD : D → D
  | .str z => .int z.length
  | d => d
theorem map_lenD (ls : List (List Nat)) : (nmsD ls).map lenD = ((ls.map List.length).map fun (n : Nat) => (n : Int)).map D.int := by
  unfold nmsD
  rw [List.map_map, List.map_map, List.map_map]
  apply List.map_congr_left
  intro l _
  show D.int ((tx l).length : Int) = _
  rw [tx_len]; rfl
theorem hMin_nms {ls : List (List Nat)} (h : OkNms ls) : hMin [.lst ((nmsD ls).map lenD)] = some (.int (minL (ls.map List.length) : Int)) := by
  show (hInts _).bind _ = _
  rw [map_lenD, hInts_ints]
  show (leastI _).map _ = _
  rw [leastI_nat _ (by intro z; have := h.lo; simp at z; rw [z] at this; simp at this)]; rfl
theorem e_shortC (s : CSp) (h : s.Ok) : F__law_shortest [s.d] = .ok (.fz (.int s.short)) := by
  have q := hMin_nms h.names
  unfold F__law_shortest CSp.d CSp.short
  refine Ret.runs rfl (Ret.sq _ (by simp -implicitDefEqProofs; rfl) (Ret.sq _ (by simp -implicitDefEqProofs; rfl) (Ret.ret ?_)))
  have cm := comp_map (i := 1) (xs := nmsD s.names) (f := mOpt hLen (aCons (gVar 1) aNil)) (r := mOpt hLst (mOpt2 hIx (gVar 0) (gC (.int 1)))) (env := [.fz (.tup [.str "choice", .lst (nmsD s.names), .int s.width, .str (sgn s.fill), .str s.side, .bl s.strict]), .no]) (c := .no) lenD (by simp [hLst]) rfl (.inl rfl) (by have := h.names.hi; simp [sizeLine_eq]; omega) (by
    intro x hx
    obtain ⟨l, hl, rfl, e⟩ := len_nm h.names x hx
    simp -implicitDefEqProofs [e, lenD])
  simp -implicitDefEqProofs only [ev_mMap, ev_mOpt, ev_aCons, ev_aNil]
  rw [cm]
  generalize (nmsD s.names).map lenD = X at q
  simp -implicitDefEqProofs [q]
inductive Spec where
  | num (s : NSp) | word (s : WSp) | cho (s : CSp)
noncomputable def Spec.d : Spec → D
  | .num s => s.d
  | .word s => s.d
  | .cho s => s.d
noncomputable def Spec.Ok : Spec → Prop
  | .num s => s.Ok ∧ (s.strict = true → s.short ≤ s.width)
  | .word s => s.Ok ∧ s.signs ≠ [32] ∧ (s.strict = true → s.least ≤ s.width)
  | .cho s => s.Ok ∧ (s.strict = true → s.short ≤ s.width)
theorem sets_ok : ∀ p ∈ setsL, OkSg p.2.cps.toList ∧ (∀ x ∈ p.2.cps.toList, x ∈ AN) := by
  have h : ∀ p ∈ setsL, p.2.cps.toList ≠ [] ∧ p.2.cps.toList.Pairwise (· < ·) ∧ ∀ x ∈ p.2.cps.toList, x ∈ AN := by decide +kernel
  intro p hp
  obtain ⟨a, b, c⟩ := h p hp
  exact ⟨⟨a, b, fun x hx => AN_sub x (c x hx)⟩, c⟩
theorem OkSg.blank {l : List Nat} (h : l ≠ []) (u : l.Pairwise (· < ·)) (s : ∀ x ∈ l, x ∈ AN) (b : Nat) (hb : b < 2) : OkSg (List.replicate b 32 ++ l) ∧ List.replicate b 32 ++ l ≠ [32] := by
  have lo := fun x hx => AN_low x (s x hx)
  refine ⟨⟨by simp [h], ?_, ?_⟩, ?_⟩
  · match b, hb with
    | 0, _ => simpa using u
    | 1, _ => exact List.pairwise_cons.mpr ⟨fun x hx => by have := lo x hx; omega, u⟩
  · intro x hx
    rcases List.mem_append.mp hx with hx | hx
    · rw [(List.mem_replicate.mp hx).2]; decide +kernel
    · exact AN_sub x (s x hx)
  · intro z
    match b, hb with
    | 0, _ =>
      have z : l = [32] := z
      have := lo 32 (by rw [z]; simp); omega
    | 1, _ =>
      have z : 32 :: l = [32] := z
      simp at z; exact h z
theorem e_any_spec (c o t : Int) : ∃ s : Spec, s.Ok ∧ F__law_any_spec [.int c, .int o, .int t] = .ok (.fz s.d) := by
  obtain ⟨n, hn, qn⟩ := e_number_spec c o
  obtain ⟨w, hw, qw⟩ := e_word_spec c o
  obtain ⟨s, hs, qs⟩ := e_choice_spec c o
  have K91 := e_pick o 91 3 (by decide) (by decide)
  have K92 := e_pick o 92 2 (by decide) (by decide)
  have K93 := e_pick o 93 4 (by decide) (by decide)
  have l92 := pick_lo o 92 2 (by decide); have h92 := pick_hi o 92 2 (by decide)
  have a4 : ∀ (d1 d2 d3 d4 : D) (r : List D), L2.atI (r ++ [d1, d2, d3, d4]) (-4) = some d1 := fun d1 d2 d3 d4 r => by
    have := atI_neg (xs := r ++ [d1, d2, d3, d4]) (j := 4) (by decide) (by simp)
    rw [show (-4 : Int) = -((4 : Nat) : Int) from rfl, this]; simp
  have a1 : ∀ (d1 : D) (r : List D), L2.atI (r ++ [d1]) (-1) = some d1 := fun d1 r => atI_last
  by_cases t1 : t = 1
  · subst t1
    obtain ⟨sg, hsg, hne, hstep⟩ : ∃ sg, OkSg sg ∧ sg ≠ [32] ∧ sIf (mOr (mOpt2 hEqS (mOpt Cell.toD (gCall F__law_pick (aCons (gVar 1) (aCons (gC (.int 91)) (aCons (gC (.int 3)) aNil))))) (gC (.int 1))) (mOpt2 hEqS (gVar 4) (gC (.str " ")))) (sSet 4 (mMap Cell.fz (mOpt2 hAdd (mOpt2 hStrMul (gC (.str " ")) (mOpt Cell.toD (gCall F__law_pick (aCons (gVar 1) (aCons (gC (.int 92)) (aCons (gC (.int 2)) aNil)))))) (mOpt2 hIx (mOpt2 hIx (mOpt Cell.toD (gCall F__law_sets aNil)) (mOpt Cell.toD (gCall F__law_pick (aCons (gVar 1) (aCons (gC (.int 93)) (aCons (gC (.int 4)) aNil)))))) (gC (.int 1)))))) sNil
        [.fz (.int c), .fz (.int o), .fz (.int 1), .fz w.d, .fz (.str (tx w.signs))] = .ok (.nx [.fz (.int c), .fz (.int o), .fz (.int 1), .fz w.d, .fz (.str (tx sg))]) := by
      by_cases hcond : pick o 91 3 = 1 ∨ tx w.signs = " "
      · obtain ⟨p, qp, mp⟩ := atI_mem (xs := setsL) (j := pick o 93 4) (pick_lo _ _ _ (by decide)) (pick_hi _ _ _ (by decide))
        have qp' : L2.atI setsD (pick o 93 4) = some (.tup [.str p.1, .str p.2]) := by unfold setsD; rw [atI_map, qp]; rfl
        obtain ⟨b, hb, hb2⟩ : ∃ b : Nat, pick o 92 2 = b ∧ b < 2 := ⟨(pick o 92 2).toNat, by omega, by omega⟩
        have sp := sets_ok p mp
        have bl := OkSg.blank sp.1.ne sp.1.up sp.2 b hb2
        refine ⟨_, bl.1, bl.2, ?_⟩
        have hlen := sp.1.len
        have r1 : hStrMul (.str " ") (.int b) = some (.str (tx (List.replicate b 32))) := by
          have e1 : (" " : Str).length = 1 := rfl
          rw [hStrMul]
          rw [if_pos (by rw [e1, sizeLine_eq]; omega)]
          match b, hb2 with
          | 0, _ => rfl
          | 1, _ => rfl
        have r2 : hAdd (.str (tx (List.replicate b 32))) (.str p.2) = some (.str (tx (List.replicate b 32 ++ p.2.cps.toList))) := by
          have e2 : p.2 = tx p.2.cps.toList := (tx_eta _).symm
          rw [ev_hAddS (by rw [e2, tx_len, tx_len, sizeLine_eq, List.length_replicate]; omega)]
          rw [e2, tx_app, tx_list]
        rw [hb] at K92
        rcases hcond with hc | hc
        · simp -implicitDefEqProofs [K91, hc, K92, K93, r1, qp', r2]
        · by_cases h91 : pick o 91 3 = 1
          · simp -implicitDefEqProofs [K91, h91, K92, K93, r1, qp', r2]
          · simp -implicitDefEqProofs [K91, h91, hc, K92, K93, r1, qp', r2]
      · refine ⟨w.signs, hw.signs, ?_, ?_⟩
        · intro z; exact hcond (.inr (by rw [z]; rfl))
        · have h1 : ¬ pick o 91 3 = 1 := fun z => hcond (.inl z)
          have h2 : ¬ tx w.signs = " " := fun z => hcond (.inr z)
          simp -implicitDefEqProofs [K91, h1, h2]
    refine ⟨.word { w with signs := sg, strict := w.strict && decide (w.least ≤ w.width) }, ⟨⟨hsg, hw.2, hw.3, hw.4, hw.5, hw.6⟩, hne, ?_⟩, ?_⟩
    · intro z; simp at z; exact z.2
    · unfold F__law_any_spec
      refine Ret.runs rfl (Ret.sq [.fz (.int c), .fz (.int o), .fz (.int 1), .fz n.d, .no] ?_ (Ret.sq [.fz (.int c), .fz (.int o), .fz (.int 1), .fz (WSp.d { w with signs := sg }), .fz (.str (tx sg))] ?_ (Ret.sq [.fz (.int c), .fz (.int o), .fz (.int 1), .fz (WSp.d { w with signs := sg }), .fz (.str (tx sg))] ?_ (Ret.ret ?_))))
      · simp -implicitDefEqProofs [qn]
      · rw [ev_sIf]
        simp -implicitDefEqProofs only [ev_mOpt2, ev_gVar_s, ev_gVar0_fz, ev_gC, List.getElem?_cons_succ, List.getElem?_cons_zero, Res.map_ok, Res.bind_ok, ev_hEqI, optR_some, decide_true, if_true]
        have q3 : sSet 3 (gCall F__law_word_spec (aCons (gVar 0) (aCons (gVar 1) (aCons (gC (.int 0)) aNil)))) [.fz (.int c), .fz (.int o), .fz (.int 1), .fz n.d, .no] = .ok (.nx [.fz (.int c), .fz (.int o), .fz (.int 1), .fz w.d, .no]) := by
          simp -implicitDefEqProofs [qw]
        have q4 : sSet 4 (mMap Cell.fz (mOpt2 hIx (gVar 3) (gC (.int 1)))) [.fz (.int c), .fz (.int o), .fz (.int 1), .fz w.d, .no] = .ok (.nx [.fz (.int c), .fz (.int o), .fz (.int 1), .fz w.d, .fz (.str (tx w.signs))]) := by
          simp -implicitDefEqProofs [WSp.d]
        rw [ev_sSeq, q3]
        simp -implicitDefEqProofs only [Res.bind_ok, ev_sThen_nx]
        rw [ev_sSeq, q4]
        simp -implicitDefEqProofs only [Res.bind_ok, ev_sThen_nx]
        rw [ev_sSeq, hstep]
        simp -implicitDefEqProofs [WSp.d, cutD, hCatT, sizeLine_eq, sIx_pos, sIx_none]
      · simp
      · have qq := e_shortW { w with signs := sg }
        rw [WSp.d] at qq
        have b1 := a1 (.bl w.strict) [.str "word", .str (tx sg), .int w.least, .int w.most, .int w.width, .str (sgn w.fill), .str w.side]
        have b4 := a4 (.int w.width) (.str (sgn w.fill)) (.str w.side) (.bl w.strict) [.str "word", .str (tx sg), .int w.least, .int w.most]
        simp only [List.cons_append, List.nil_append] at b1 b4
        simp only at qq
        cases hst : w.strict
        · rw [hst] at qq b1 b4
          simp -implicitDefEqProofs [WSp.d, Spec.d, hst, cutD, hCatT, sizeLine_eq, b1, sIx_neg, sIx_none]
        · rw [hst] at qq b1 b4
          simp -implicitDefEqProofs [WSp.d, Spec.d, hst, cutD, hCatT, sizeLine_eq, b1, b4, qq, sIx_neg, sIx_none]
  · by_cases t2 : t = 2
    · subst t2
      refine ⟨.cho { s with strict := s.strict && decide (s.short ≤ s.width) }, ⟨⟨hs.1, hs.2, hs.3, hs.4⟩, ?_⟩, ?_⟩
      · intro z; simp at z; exact z.2
      · unfold F__law_any_spec
        refine Ret.runs rfl (Ret.sq [.fz (.int c), .fz (.int o), .fz (.int 2), .fz n.d, .no] ?_ (Ret.sq [.fz (.int c), .fz (.int o), .fz (.int 2), .fz n.d, .no] ?_ (Ret.sq [.fz (.int c), .fz (.int o), .fz (.int 2), .fz s.d, .no] ?_ (Ret.ret ?_))))
        · simp -implicitDefEqProofs [qn]
        · simp -implicitDefEqProofs
        · simp -implicitDefEqProofs [qs]
        · have qq := e_shortC s hs
          rw [CSp.d] at qq
          have b1 := a1 (.bl s.strict) [.str "choice", .lst (nmsD s.names), .int s.width, .str (sgn s.fill), .str s.side]
          have b4 := a4 (.int s.width) (.str (sgn s.fill)) (.str s.side) (.bl s.strict) [.str "choice", .lst (nmsD s.names)]
          simp only [List.cons_append, List.nil_append] at b1 b4
          cases hst : s.strict
          · rw [hst] at qq b1 b4
            simp -implicitDefEqProofs [CSp.d, Spec.d, hst, cutD, hCatT, sizeLine_eq, b1, sIx_neg, sIx_none]
          · rw [hst] at qq b1 b4
            simp -implicitDefEqProofs [CSp.d, Spec.d, hst, cutD, hCatT, sizeLine_eq, b1, b4, qq, sIx_neg, sIx_none]
    · refine ⟨.num { n with strict := n.strict && decide (n.short ≤ n.width) }, ⟨⟨hn.1, hn.2, hn.3, hn.4, hn.5, hn.6, hn.7, hn.8, hn.9, hn.10, hn.11⟩, ?_⟩, ?_⟩
      · intro z; simp at z; exact z.2
      · unfold F__law_any_spec
        refine Ret.runs rfl (Ret.sq [.fz (.int c), .fz (.int o), .fz (.int t), .fz n.d, .no] ?_ (Ret.sq [.fz (.int c), .fz (.int o), .fz (.int t), .fz n.d, .no] ?_ (Ret.sq [.fz (.int c), .fz (.int o), .fz (.int t), .fz n.d, .no] ?_ (Ret.ret ?_))))
        · simp -implicitDefEqProofs [qn]
        · simp -implicitDefEqProofs [t1]
        · simp -implicitDefEqProofs [t2]
        · have qq := e_shortN n hn
          have b1 := a1 (.bl n.strict) [.str "number", .int n.fig, .int n.plc, .int n.base, .str n.sign, .int n.size, .str (sgn n.mark), .str (sgn n.point), .str n.way, .int n.width, .str (sgn n.fill), .str n.side]
          have b4 := a4 (.int n.width) (.str (sgn n.fill)) (.str n.side) (.bl n.strict) [.str "number", .int n.fig, .int n.plc, .int n.base, .str n.sign, .int n.size, .str (sgn n.mark), .str (sgn n.point), .str n.way]
          simp only [List.cons_append, List.nil_append] at b1 b4
          rw [NSp.d] at qq
          have hb4 : (12 : Nat) ≤ sizeLine := by rw [sizeLine_eq]; omega
          cases hst : n.strict
          · rw [hst] at qq b1 b4
            simp -implicitDefEqProofs [NSp.d, Spec.d, hst, cutD, hCatT, sizeLine_eq, b1, sIx_neg, sIx_none]
          · rw [hst] at qq b1 b4
            simp -implicitDefEqProofs [NSp.d, Spec.d, hst, cutD, hCatT, sizeLine_eq, b1, b4, qq, sIx_neg, sIx_none]
end DL
namespace DL
open PySem PySem.Spec PyProof.Rows L2
theorem map_toNat_inj : ∀ {a b : List Char}, a.map Char.toNat = b.map Char.toNat → a = b
  | [], [], _ => rfl
  | [], _ :: _, h => by cases h
  | _ :: _, [], h => by cases h
  | c :: a, d :: b, h => by
    simp only [List.map_cons, List.cons.injEq] at h
    rw [map_toNat_inj h.2, Char.toNat_inj.mp h.1]
@[simp] theorem ofStr_eq {a b : String} : (Str.ofString a = Str.ofString b) = (a = b) := by
  apply propext
  constructor
  · intro h
    rw [Str.ofString_eq_toList, Str.ofString_eq_toList] at h
    have h2 := congrArg (fun x : Str => x.cps.toList) h
    simp only at h2
    exact String.toList_inj.mp (map_toNat_inj h2)
  · rintro rfl; rfl
structure Row where
  w : Str
  role : Str
  lo : Int
  hi : Int
noncomputable def Row.d (r : Row) : D := .tup [.str r.w, .str r.role, .int r.lo, .int r.hi]
noncomputable def sw (c : Nat) : Str := if c = 32 then "blank" else sgn c
noncomputable def nw (n : Int) : Str := Str.ofString (toString n)
noncomputable def key (k : Str) : Row := ⟨k, "key", 0, 0⟩
noncomputable def oi (c : Prop) [Decidable c] (X : List Row) : List Row := if c then X else []
noncomputable def tailR (kept : Str) (width : Int) (fill : Nat) (side : Str) (strict : Bool) (b : Int) : List Row :=
  oi (0 < width) [key "width", ⟨nw width, "number", 1, 40⟩] ++ oi (fill ≠ 32 ∨ b / 16 % 2 = 1) [key "fill", ⟨sw fill, "sign", 0, 0⟩]
  ++ oi (side ≠ kept ∨ b / 32 % 2 = 1) [key "side", ⟨side, "side", 0, 0⟩] ++ oi (strict = true) [key "strict"]
noncomputable def headN (s : NSp) (b : Int) : List Row :=
  [⟨"number", "kind", 0, 0⟩, ⟨nw s.fig, "number", 1, 12⟩, ⟨nw s.plc, "number", 0, 6⟩] ++ oi (s.base ≠ 10 ∨ b % 2 = 1) [key "base", ⟨nw s.base, "number", 2, 16⟩]
  ++ oi (s.sign ≠ "minus" ∨ b / 2 % 2 = 1) [key "sign", ⟨s.sign, "style", 0, 0⟩] ++ oi (0 < s.size) [key "groups", ⟨nw s.size, "number", 1, 9⟩, ⟨sw s.mark, "sign", 0, 0⟩]
  ++ oi (s.point ≠ 46 ∨ b / 4 % 2 = 1) [key "point", ⟨sw s.point, "sign", 0, 0⟩] ++ oi (s.way ≠ "near" ∨ b / 8 % 2 = 1) [key "way", ⟨s.way, "way", 0, 0⟩]
/-- the word of signs -/
noncomputable def ssw (l : List Nat) (b : Int) : Str :=
  let rest := tx (l.filter (· ≠ 32))
  if b % 2 = 0 then match setsL.find? (fun p => p.2 = rest) with
    | some p => p.1
    | none => "=" ++ rest
  else "=" ++ rest
noncomputable def headW (s : WSp) (b : Int) : List Row :=
  [⟨"word", "kind", 0, 0⟩, ⟨ssw s.signs (b / 64), "signs", 0, 0⟩, ⟨nw s.least, "number", 0, 24⟩, ⟨nw s.most, "number", s.least, 24⟩] ++ oi (32 ∈ s.signs) [key "blank"]
noncomputable def headC (s : CSp) : List Row :=
  [⟨"choice", "kind", 0, 0⟩, ⟨nw s.names.length, "number", 1, 12⟩] ++ s.names.map fun l => ⟨tx l, "name", 0, 0⟩
noncomputable def Spec.rows (b : Int) : Spec → List Row
  | .num s => headN s b ++ tailR "right" s.width s.fill s.side s.strict b
  | .word s => headW s b ++ tailR "left" s.width s.fill s.side s.strict b
  | .cho s => headC s ++ tailR "left" s.width s.fill s.side s.strict b
noncomputable abbrev rowsD (rs : List Row) : List D := rs.map Row.d
theorem st_add {i : Nat} {t : M Bool} {g : M (List D)} {c : Prop} [Decidable c] {X : List Row} {env : DEnv} {rs : List Row} (h : env[i]? = some (.ow (rowsD rs))) (ht : t env = .ok (decide c, env))
    (hg : g (env.set i (.fz (.lst (rowsD rs)))) = .ok (rowsD X, env.set i (.fz (.lst (rowsD rs))))) (hl : rs.length + X.length ≤ 1000) :
    sIf t (sSet i (mMap Cell.ow (mOpt2 hCat (gVar i) (mOpt Cell.toD (mMap Cell.ow g))))) sNil env = .ok (.nx (env.set i (.ow (rowsD (rs ++ oi c X))))) := by
  have ilt : i < env.length := (List.getElem?_eq_some_iff.mp h).1
  rw [ev_sIf, ht]
  by_cases hc : c
  · rw [decide_eq_true hc]
    simp only [Res.bind_ok, if_true]
    rw [ev_sSet, ev_mMap, ev_mOpt2, gVar_ow h]
    simp only [Res.bind_ok]
    rw [ev_mOpt, ev_mMap, hg]
    simp only [Res.bind_ok, Res.map_ok, ev_toD_ow, optR_some]
    rw [ev_hCat (by rw [List.length_map, List.length_map, sizeLine_eq]; omega)]
    simp only [Res.bind_ok, Res.map_ok, optR_some]
    rw [setC_Pl (c0 := .fz (.lst (rowsD rs))) (by simp [ilt]) (.inr ⟨_, rfl⟩), List.set_set]
    unfold oi
    rw [if_pos hc, ← List.map_append]
  · rw [decide_eq_false hc]
    simp only [Res.bind_ok]
    rw [if_neg (by simp)]
    unfold oi
    rw [if_neg hc, List.append_nil]
    have : env.set i (.ow (rowsD rs)) = env := List.ext_getElem? fun j => by
      by_cases hj : i = j
      · subst hj; rw [List.getElem?_set_self ilt, h]
      · rw [List.getElem?_set_ne hj]
    rw [this]; rfl
theorem e_sign_word (c : Nat) : F__law_sign_word [.str (sgn c)] = .ok (.fz (.str (sw c))) := by
  unfold F__law_sign_word sw
  have hb : (sgn c = " ") ↔ c = 32 := ⟨fun h => by have := tx_inj (a := [c]) (b := [32]) h; simpa using this, fun h => by rw [h]; rfl⟩
  by_cases h : c = 32
  · refine Ret.runs rfl (Ret.first ?_)
    have hs : sgn 32 = " " := rfl
    subst h
    simp -implicitDefEqProofs [Ret, hs]
  · refine Ret.runs rfl (Ret.sq [.fz (.str (sgn c))] ?_ (Ret.ret ?_))
    · simp -implicitDefEqProofs [hb, h]
    · simp -implicitDefEqProofs [h]
theorem e_strI {n : Int} (h0 : 0 ≤ n) (h1 : n ≤ 1000) : hStrI [.int n] = some (.str (nw n)) := by
  have : n.natAbs.log2 < 1920 := by
    by_cases h : n.natAbs = 0
    · rw [h]; decide
    · exact (Nat.log2_lt h).mpr (Nat.lt_of_lt_of_le (show n.natAbs < 2 ^ 10 by omega) (Nat.pow_le_pow_right (by decide) (by decide)))
  show (if n.natAbs.log2 < 1920 then _ else _) = _
  rw [if_pos this]; rfl
theorem e_first_num (s : NSp) (h : s.Ok) (b : Int) : F__law_first_rows [s.d, .int b] = .ok (.ow (rowsD (headN s b))) := by
  have S1 := e_strI (n := s.fig) (by have := h.fig; omega) (by have := h.fig; omega)
  have S2 := e_strI (n := s.plc) (by have := h.plc; omega) (by have := h.plc; omega)
  have S3 := e_strI (n := s.base) (by have := h.base; omega) (by have := h.base; omega)
  have S4 := e_strI (n := s.size) (by have := h.size; omega) (by have := h.size; omega)
  have W1 := e_sign_word s.mark
  have W2 := e_sign_word s.point
  have hb : ∀ c : Nat, (sgn c = ".") ↔ c = 46 := fun c => ⟨fun h => by have := tx_inj (a := [c]) (b := [46]) h; simpa using this, fun h => by rw [h]; rfl⟩
  let E : List Row → DEnv := fun rs => [.fz s.d, .fz (.int b), .fz (.int s.fig), .fz (.int s.plc), .fz (.int s.base), .fz (.str s.sign), .fz (.int s.size), .fz (.str (sgn s.mark)), .fz (.str (sgn s.point)), .fz (.str s.way), .ow (rowsD rs), .no]
  have step : ∀ {t : M Bool} {g : M (List D)} {c : Prop} [Decidable c] {X rs : List Row}, t (E rs) = .ok (decide c, E rs) → g ((E rs).set 10 (.fz (.lst (rowsD rs)))) = .ok (rowsD X, (E rs).set 10 (.fz (.lst (rowsD rs)))) → rs.length + X.length ≤ 1000 →
    sIf t (sSet 10 (mMap Cell.ow (mOpt2 hCat (gVar 10) (mOpt Cell.toD (mMap Cell.ow g))))) sNil (E rs) = .ok (.nx (E (rs ++ oi c X))) := fun ht hg hl => st_add rfl ht hg hl
  have lo : ∀ {c : Prop} [Decidable c] {X : List Row}, (oi c X).length ≤ X.length := fun {c} _ {X} => by unfold oi; split <;> simp
  unfold F__law_first_rows headN
  refine Ret.runs rfl ?_
  refine Ret.sq [.fz s.d, .fz (.int b), .no, .no, .no, .no, .no, .no, .no, .no, .no, .no] ?_ ?_
  · simp -implicitDefEqProofs [NSp.d]
  refine Ret.sq [.fz s.d, .fz (.int b), .no, .no, .no, .no, .no, .no, .no, .no, .no, .no] ?_ ?_
  · simp -implicitDefEqProofs [NSp.d]
  refine Ret.sq [.fz s.d, .fz (.int b), .fz (.int s.fig), .fz (.int s.plc), .fz (.int s.base), .fz (.str s.sign), .fz (.int s.size), .fz (.str (sgn s.mark)), .fz (.str (sgn s.point)), .fz (.str s.way), .no, .no] ?_ ?_
  · simp -implicitDefEqProofs [NSp.d, cutD, sIx_pos]
  refine Ret.sq (E [⟨"number", "kind", 0, 0⟩, ⟨nw s.fig, "number", 1, 12⟩, ⟨nw s.plc, "number", 0, 6⟩]) ?_ ?_
  · simp -implicitDefEqProofs [S1, S2, E, Row.d]
  refine Ret.sq _ (step (c := s.base ≠ 10 ∨ b % 2 = 1) (X := [key "base", ⟨nw s.base, "number", 2, 16⟩]) ?_ ?_ ?_) ?_
  · by_cases h1 : s.base = 10 <;> simp -implicitDefEqProofs [E, h1]
  · simp -implicitDefEqProofs [E, S3, Row.d, key]
  · simp
  refine Ret.sq _ (step (c := s.sign ≠ "minus" ∨ b / 2 % 2 = 1) (X := [key "sign", ⟨s.sign, "style", 0, 0⟩]) ?_ ?_ ?_) ?_
  · by_cases h1 : s.sign = "minus" <;> simp -implicitDefEqProofs [E, h1]
  · simp -implicitDefEqProofs [E, Row.d, key]
  · have l1 := lo (c := s.base ≠ 10 ∨ b % 2 = 1) (X := [key "base", ⟨nw s.base, "number", 2, 16⟩])
    simp only [List.length_append, List.length_cons, List.length_nil] at l1 ⊢; omega
  refine Ret.sq (E (([⟨"number", "kind", 0, 0⟩, ⟨nw s.fig, "number", 1, 12⟩, ⟨nw s.plc, "number", 0, 6⟩] ++ oi (s.base ≠ 10 ∨ b % 2 = 1) [key "base", ⟨nw s.base, "number", 2, 16⟩]
    ++ oi (s.sign ≠ "minus" ∨ b / 2 % 2 = 1) [key "sign", ⟨s.sign, "style", 0, 0⟩]) ++ oi (0 < s.size) [key "groups", ⟨nw s.size, "number", 1, 9⟩, ⟨sw s.mark, "sign", 0, 0⟩])) ?_ ?_
  · have l1 := lo (c := s.base ≠ 10 ∨ b % 2 = 1) (X := [key "base", ⟨nw s.base, "number", 2, 16⟩])
    have l2 := lo (c := s.sign ≠ "minus" ∨ b / 2 % 2 = 1) (X := [key "sign", ⟨s.sign, "style", 0, 0⟩])
    generalize hrs : [⟨"number", "kind", 0, 0⟩, ⟨nw s.fig, "number", 1, 12⟩, ⟨nw s.plc, "number", 0, 6⟩] ++ oi (s.base ≠ 10 ∨ b % 2 = 1) [key "base", ⟨nw s.base, "number", 2, 16⟩] ++ oi (s.sign ≠ "minus" ∨ b / 2 % 2 = 1) [key "sign", ⟨s.sign, "style", 0, 0⟩] = rs
    have hl : rs.length ≤ 20 := by
      rw [← hrs]
      simp only [List.length_append, List.length_cons, List.length_nil] at l1 l2 ⊢; omega
    have hc := ev_hCat (a := rowsD rs) (b := [Row.d (key "groups"), Row.d ⟨nw s.size, "number", 1, 9⟩]) (by simp [sizeLine_eq]; omega)
    have ap : ∀ ds : List D, ds.length < sizeLine → gAppend 10 (mMap D.tup (mOpt okLen (aCons (mOpt Cell.toD (gCall F__law_sign_word (aCons (gVar 7) aNil))) (aCons (gC (.str "sign")) (aCons (gC (.int 0)) (aCons (gC (.int 0)) aNil))))))
        [.fz s.d, .fz (.int b), .fz (.int s.fig), .fz (.int s.plc), .fz (.int s.base), .fz (.str s.sign), .fz (.int s.size), .fz (.str (sgn s.mark)), .fz (.str (sgn s.point)), .fz (.str s.way), .ow ds, .no]
        = .ok (.non, [.fz s.d, .fz (.int b), .fz (.int s.fig), .fz (.int s.plc), .fz (.int s.base), .fz (.str s.sign), .fz (.int s.size), .fz (.str (sgn s.mark)), .fz (.str (sgn s.point)), .fz (.str s.way), .ow (ds ++ [Row.d ⟨sw s.mark, "sign", 0, 0⟩]), .no]) := by
      intro ds hds
      unfold gAppend
      simp -implicitDefEqProofs [W1, hds, Row.d]
    by_cases h0 : 0 < s.size
    · have a2 := ap (rowsD rs ++ [Row.d (key "groups"), Row.d ⟨nw s.size, "number", 1, 9⟩]) (by simp [sizeLine_eq]; omega)
      simp only [Row.d, key] at hc a2
      simp only [E]
      simp -implicitDefEqProofs [h0, S4, hc, a2, oi, Row.d, key]
    · simp -implicitDefEqProofs [E, h0, oi]
  have L1 := lo (c := s.base ≠ 10 ∨ b % 2 = 1) (X := [key "base", ⟨nw s.base, "number", 2, 16⟩])
  have L2 := lo (c := s.sign ≠ "minus" ∨ b / 2 % 2 = 1) (X := [key "sign", ⟨s.sign, "style", 0, 0⟩])
  have L3 := lo (c := 0 < s.size) (X := [key "groups", ⟨nw s.size, "number", 1, 9⟩, ⟨sw s.mark, "sign", 0, 0⟩])
  have L4 := lo (c := s.point ≠ 46 ∨ b / 4 % 2 = 1) (X := [key "point", ⟨sw s.point, "sign", 0, 0⟩])
  simp only [List.length_cons, List.length_nil] at L1 L2 L3 L4
  refine Ret.sq _ (step (c := s.point ≠ 46 ∨ b / 4 % 2 = 1) (X := [key "point", ⟨sw s.point, "sign", 0, 0⟩]) ?_ ?_ ?_) ?_
  · by_cases h1 : s.point = 46 <;> simp -implicitDefEqProofs [E, hb, h1]
  · simp -implicitDefEqProofs [E, W2, Row.d, key]
  · simp only [List.length_append, List.length_cons, List.length_nil]; omega
  refine Ret.sq _ (step (c := s.way ≠ "near" ∨ b / 8 % 2 = 1) (X := [key "way", ⟨s.way, "way", 0, 0⟩]) ?_ ?_ ?_) ?_
  · by_cases h1 : s.way = "near" <;> simp -implicitDefEqProofs [E, h1]
  · simp -implicitDefEqProofs [E, Row.d, key]
  · simp only [List.length_append, List.length_cons, List.length_nil]; omega
  refine Ret.ret ?_
  simp -implicitDefEqProofs [E]
theorem replL_blank : ∀ l : List Nat, PySem.StrLaws.replL [32] [] l = l.filter (· ≠ 32)
  | [] => PySem.StrLaws.replL_nil
  | c :: r => by
    by_cases h : c = 32
    · rw [PySem.StrLaws.replL_hit (by simp) (by simp [h])]
      simp only [List.length_cons, List.length_nil, List.drop_succ_cons, List.drop_zero, List.nil_append]
      rw [replL_blank r]; simp [h]
    · rw [PySem.StrLaws.replL_miss (by simp [h]), replL_blank r]; simp [h]
theorem hRepl_blank {l : List Nat} (h : l.length ≤ 1000) : hRepl " " "" (.str (tx l)) = some (.str (tx (l.filter (· ≠ 32)))) := by
  have e0 : ("" : Str).length = 0 := rfl
  rw [hRepl, if_pos (by rw [tx_len, e0]; omega)]
  have := PySem.StrLaws.replace_list (x := tx l) (y := " ") (z := "") (by decide)
  have e1 : (" " : Str).cps.toList = [32] := rfl
  have e2 : ("" : Str).cps.toList = [] := rfl
  rw [e1, e2, tx_list, replL_blank] at this
  rw [← this, tx_eta]
theorem forSets {b : Int} {a0 : Cell} {rest : Str} : ∀ (ps : List (Str × Str)) (c3 c4 : Cell), Pl c3 → Pl c4 →
    (b % 2 = 0 ∧ ∃ p e, ps.find? (fun p => p.2 = rest) = some p ∧ forL (gtTup 2 (gtCons (gtName 3) (gtCons (gtName 4) gtNil))) (sIf (mAnd (mOpt2 hEqS (gVar 4) (gVar 2)) (mOpt2 hEqS (mOpt2 hMod (gVar 1) (gC (.int 2))) (gC (.int 0)))) (sRet (gTake 3)) sNil) (ps.map fun p => .tup [.str p.1, .str p.2]) [a0, .fz (.int b), .fz (.str rest), c3, c4] = .ok (.rt (.fz (.str p.1)) e))
    ∨ ((b % 2 = 0 → ps.find? (fun p => p.2 = rest) = none) ∧ ∃ d3 d4, forL (gtTup 2 (gtCons (gtName 3) (gtCons (gtName 4) gtNil))) (sIf (mAnd (mOpt2 hEqS (gVar 4) (gVar 2)) (mOpt2 hEqS (mOpt2 hMod (gVar 1) (gC (.int 2))) (gC (.int 0)))) (sRet (gTake 3)) sNil) (ps.map fun p => .tup [.str p.1, .str p.2]) [a0, .fz (.int b), .fz (.str rest), c3, c4] = .ok (.nx [a0, .fz (.int b), .fz (.str rest), d3, d4]))
  | [], c3, c4, h3, h4 => .inr ⟨fun _ => rfl, c3, c4, rfl⟩
  | p :: ps, c3, c4, h3, h4 => by
    have q1 : gtTup 2 (gtCons (gtName 3) (gtCons (gtName 4) gtNil)) (.tup [.str p.1, .str p.2]) [a0, .fz (.int b), .fz (.str rest), c3, c4] = .ok (.nx [a0, .fz (.int b), .fz (.str rest), .fz (.str p.1), .fz (.str p.2)]) := by
      simp -implicitDefEqProofs [setC_pl h3, setC_pl h4]
    by_cases hc : p.2 = rest ∧ b % 2 = 0
    · refine .inl ⟨hc.2, p, [a0, .fz (.int b), .fz (.str rest), .fz (.str p.1), .fz (.str p.2)], by simp [hc.1], ?_⟩
      rw [List.map_cons, forL, q1]
      simp -implicitDefEqProofs [hc.1, hc.2]
    · have q2 : sIf (mAnd (mOpt2 hEqS (gVar 4) (gVar 2)) (mOpt2 hEqS (mOpt2 hMod (gVar 1) (gC (.int 2))) (gC (.int 0)))) (sRet (gTake 3)) sNil [a0, .fz (.int b), .fz (.str rest), .fz (.str p.1), .fz (.str p.2)] = .ok (.nx [a0, .fz (.int b), .fz (.str rest), .fz (.str p.1), .fz (.str p.2)]) := by
        by_cases h1 : p.2 = rest
        · have h2 : ¬ b % 2 = 0 := fun z => hc ⟨h1, z⟩
          simp -implicitDefEqProofs [h1, h2]
        · simp -implicitDefEqProofs [h1]
      rcases forSets (b := b) (a0 := a0) (rest := rest) ps (.fz (.str p.1)) (.fz (.str p.2)) (.inr ⟨_, rfl⟩) (.inr ⟨_, rfl⟩) with ⟨hb, p', e, h1, h2⟩ | ⟨h1, d3, d4, h2⟩
      · refine .inl ⟨hb, p', e, ?_, ?_⟩
        · rw [List.find?_cons_of_neg (by simpa using fun z => hc ⟨z, hb⟩)]; exact h1
        · rw [List.map_cons, forL, q1]
          simp only [Res.bind_ok]
          rw [q2]; exact h2
      · refine .inr ⟨fun hb => ?_, d3, d4, ?_⟩
        · rw [List.find?_cons_of_neg (by simpa using fun z => hc ⟨z, hb⟩)]; exact h1 hb
        · rw [List.map_cons, forL, q1]
          simp only [Res.bind_ok]
          rw [q2]; exact h2
theorem e_signs_word (l : List Nat) (b : Int) (hl : l.length ≤ 1000) : F__law_signs_word [.str (tx l), .int b] = .ok (.fz (.str (ssw l b))) := by
  have hr := hRepl_blank hl
  have hfl : (l.filter (· ≠ 32)).length ≤ 1000 := Nat.le_trans (List.length_filter_le _ _) hl
  have ha := ev_hAddS (a := "=") (b := tx (l.filter (· ≠ 32))) (by have h1 := tx_len (l.filter (· ≠ 32)); have h2 : ("=" : Str).length = 1 := rfl; rw [sizeLine_eq]; omega)
  unfold F__law_signs_word
  generalize hrest : tx (l.filter (· ≠ 32)) = rest at hr ha
  refine Ret.runs rfl (Ret.sq [.fz (.str (tx l)), .fz (.int b), .fz (.str rest), .no, .no] ?_ ?_)
  · simp -implicitDefEqProofs [hr]
  rcases forSets (b := b) (a0 := .fz (.str (tx l))) (rest := rest) setsL .no .no (.inl rfl) (.inl rfl) with ⟨hb, p, e, h1, h2⟩ | ⟨h1, d3, d4, h2⟩
  · refine Ret.first ⟨e, ?_⟩
    have : ssw l b = p.1 := by
      unfold ssw
      simp only [hrest]
      rw [if_pos hb, h1]
    rw [this, ← h2]
    simp -implicitDefEqProofs [hLst, setsD]
  · refine Ret.sq [.fz (.str (tx l)), .fz (.int b), .fz (.str rest), d3, d4] ?_ (Ret.ret ?_)
    · rw [← h2]
      simp -implicitDefEqProofs [hLst, setsD]
    · have : ssw l b = "=" ++ rest := by
        unfold ssw
        simp only [hrest]
        split
        · rename_i hb; rw [h1 hb]
        · rfl
      rw [this]
      simp -implicitDefEqProofs [ha]
theorem oi_len {c : Prop} [Decidable c] {X : List Row} : (oi c X).length ≤ X.length := by unfold oi; split <;> simp
theorem cut_if {c : Prop} [Decidable c] {r : Row} : cutD [r.d] none (some (if c then 1 else 0)) = rowsD (oi c [r]) := by
  by_cases h : c
  · simp [h, oi, cutD, sIx_none, sIx_pos]
  · simp [h, oi, cutD, sIx_none, sIx_pos]
theorem hInQ_blank (l : List Nat) : hInQ (.str " ") (.str (tx l)) = some (decide (32 ∈ l)) := by
  show (match (" " : Str).cps.toList with | [c] => some (decide (c ∈ (tx l).cps.toList)) | _ => none) = _
  rw [tx_list]; rfl
theorem e_first_word (s : WSp) (h : s.Ok) (b : Int) : F__law_first_rows [s.d, .int b] = .ok (.ow (rowsD (headW s b))) := by
  have S2 := e_strI (n := s.least) (by have := h.least; omega) (by have := h.least; have := h.most; omega)
  have S3 := e_strI (n := s.most) (by have := h.least; omega) (by have := h.most; omega)
  have sl := h.signs.len
  have W1 := e_signs_word s.signs (b / 64) (by omega)
  have hq := hInQ_blank s.signs
  have ci := cut_if (c := 32 ∈ s.signs) (r := key "blank")
  simp only [Row.d, key] at ci
  have hc1 : ∀ X : List D, X.length ≤ 2 → ∀ a c : D, hCat (.lst [a, c]) (.lst X) = some ([a, c] ++ X) := fun X hX a c => ev_hCat (by rw [sizeLine_eq]; simp; omega)
  have hc2 : ∀ X : List D, X.length ≤ 2 → ∀ a c e f : D, hCat (.lst [a, c, e, f]) (.lst X) = some ([a, c, e, f] ++ X) := fun X hX a c e f => ev_hCat (by rw [sizeLine_eq]; simp; omega)
  have ol := oi_len (c := 32 ∈ s.signs) (X := [key "blank"])
  have hc3 := hc2 (rowsD (oi (32 ∈ s.signs) [key "blank"])) (by simp at ol ⊢; omega)
  unfold F__law_first_rows headW
  refine Ret.runs rfl (Ret.first ?_)
  simp only [Row.d, key] at hc3
  have K : ∀ x y : D, hCat (.lst [x, y]) (.lst [.tup [.str (nw s.least), .str "number", .int 0, .int 24], .tup [.str (nw s.most), .str "number", .int s.least, .int 24]]) = some [x, y, .tup [.str (nw s.least), .str "number", .int 0, .int 24], .tup [.str (nw s.most), .str "number", .int s.least, .int 24]] := fun x y => hc1 _ (by simp) x y
  generalize hX : rowsD (oi (32 ∈ s.signs) [⟨"blank", "key", 0, 0⟩]) = X at ci hc3
  have goalEq : rowsD ([⟨"word", "kind", 0, 0⟩, ⟨ssw s.signs (b / 64), "signs", 0, 0⟩, ⟨nw s.least, "number", 0, 24⟩, ⟨nw s.most, "number", s.least, 24⟩] ++ oi (32 ∈ s.signs) [key "blank"]) = [.tup [.str "word", .str "kind", .int 0, .int 0], .tup [.str (ssw s.signs (b / 64)), .str "signs", .int 0, .int 0], .tup [.str (nw s.least), .str "number", .int 0, .int 24], .tup [.str (nw s.most), .str "number", .int s.least, .int 24]] ++ X := by
    rw [← hX]; exact List.map_append
  rw [goalEq]
  simp -implicitDefEqProofs [Ret, WSp.d, W1, S2, S3, hq, K, ci, hc3]
theorem e_first_cho (s : CSp) (h : s.Ok) (b : Int) : F__law_first_rows [s.d, .int b] = .ok (.ow (rowsD (headC s))) := by
  have nl := h.names.hi
  have S1 := e_strI (n := (s.names.length : Int)) (by omega) (by omega)
  have hL : hLen [.lst (nmsD s.names)] = some (.int s.names.length) := by show some (D.int _) = _; rw [List.length_map]
  let E : DEnv := [.fz s.d, .fz (.int b), .no, .no, .no, .no, .no, .no, .no, .no, .fz (.lst [Row.d ⟨"choice", "kind", 0, 0⟩, Row.d ⟨nw s.names.length, "number", 1, 12⟩]), .no]
  have cm := comp_map (i := 11) (xs := nmsD s.names) (f := mMap D.tup (mOpt okLen (aCons (gVar 11) (aCons (gC (.str "name")) (aCons (gC (.int 0)) (aCons (gC (.int 0)) aNil)))))) (r := mOpt hLst (mOpt2 hIx (gVar 0) (gC (.int 1)))) (env := E) (c := .no) (fun d => .tup [d, .str "name", .int 0, .int 0]) (by simp [E, hLst, CSp.d]) rfl (.inl rfl) (by have := h.names.hi; simp [sizeLine_eq]; omega) (by
    intro x hx
    simp -implicitDefEqProofs [E])
  have hm : (nmsD s.names).map (fun d => D.tup [d, .str "name", .int 0, .int 0]) = rowsD (s.names.map fun l => ⟨tx l, "name", 0, 0⟩) := by
    unfold nmsD rowsD
    rw [List.map_map, List.map_map]; rfl
  have hc : hCat (.lst [Row.d ⟨"choice", "kind", 0, 0⟩, Row.d ⟨nw s.names.length, "number", 1, 12⟩]) (.lst (rowsD (s.names.map fun l => ⟨tx l, "name", 0, 0⟩))) = some (rowsD (headC s)) := by
    rw [ev_hCat (by simp [sizeLine_eq]; omega)]
    unfold headC
    congr 1
  rw [hm] at cm
  generalize rowsD (s.names.map fun l => ⟨tx l, "name", 0, 0⟩) = X at cm hc
  generalize rowsD (headC s) = Y at hc
  unfold F__law_first_rows
  refine Ret.runs rfl ?_
  refine Ret.sq [.fz s.d, .fz (.int b), .no, .no, .no, .no, .no, .no, .no, .no, .no, .no] (by simp -implicitDefEqProofs [CSp.d]) (Ret.first ?_)
  have t1 : (mOpt2 hEqS (mOpt2 hIx (gVar 0) (gC (.int 0))) (gC (.str "choice"))) [.fz s.d, .fz (.int b), .no, .no, .no, .no, .no, .no, .no, .no, .no, .no] = .ok (true, [.fz s.d, .fz (.int b), .no, .no, .no, .no, .no, .no, .no, .no, .no, .no]) := by
    simp -implicitDefEqProofs [CSp.d]
  unfold Ret
  rw [ev_sIf, t1]
  simp only [Res.bind_ok, if_true]
  refine Ret.sq [.fz s.d, .fz (.int b), .no, .no, .no, .no, .no, .no, .no, .no, .ow [Row.d ⟨"choice", "kind", 0, 0⟩, Row.d ⟨nw s.names.length, "number", 1, 12⟩], .no] ?_ (Ret.ret ?_)
  · simp -implicitDefEqProofs [CSp.d, hL, S1, Row.d]
  · have g10 : gVar 10 [.fz s.d, .fz (.int b), .no, .no, .no, .no, .no, .no, .no, .no, .ow [Row.d ⟨"choice", "kind", 0, 0⟩, Row.d ⟨nw s.names.length, "number", 1, 12⟩], .no] = .ok (.lst [Row.d ⟨"choice", "kind", 0, 0⟩, Row.d ⟨nw s.names.length, "number", 1, 12⟩], E) := rfl
    rw [ev_mMap, ev_mOpt2, g10]
    simp only [Res.bind_ok]
    rw [ev_mOpt, cm]
    simp -implicitDefEqProofs [hc]
theorem e_tail {d : D} {hd : List Row} {kept : Str} {width : Int} {fill : Nat} {side : Str} {strict : Bool} {b : Int} {r : List D} {z : Str} (ed : d = .tup (.str z :: r ++ [.int width, .str (sgn fill), .str side, .bl strict])) (hh : F__law_first_rows [d, .int b] = .ok (.ow (rowsD hd)))
    (hk : kept = if z = "number" then "right" else "left") (hl : hd.length ≤ 100) (hw : 0 ≤ width ∧ width ≤ 40) (hr : r.length ≤ 50) :
    F__law_word_rows [d, .int b] = .ok (.ow (rowsD (hd ++ tailR kept width fill side strict b))) := by
  have S1 := e_strI (n := width) (by omega) (by omega)
  have W1 := e_sign_word fill
  have hb : ∀ c : Nat, (sgn c = " ") ↔ c = 32 := fun c => ⟨fun h => by have := tx_inj (a := [c]) (b := [32]) h; simpa using this, fun h => by rw [h]; rfl⟩
  let E : List Row → DEnv := fun rs => [.fz d, .fz (.int b), .ow (rowsD rs), .fz (.int width), .fz (.str (sgn fill)), .fz (.str side), .fz (.bl strict), .fz (.str kept)]
  have step : ∀ {t : M Bool} {g : M (List D)} {c : Prop} [Decidable c] {X rs : List Row}, t (E rs) = .ok (decide c, E rs) → g ((E rs).set 2 (.fz (.lst (rowsD rs)))) = .ok (rowsD X, (E rs).set 2 (.fz (.lst (rowsD rs)))) → rs.length + X.length ≤ 1000 →
    sIf t (sSet 2 (mMap Cell.ow (mOpt2 hCat (gVar 2) (mOpt Cell.toD (mMap Cell.ow g))))) sNil (E rs) = .ok (.nx (E (rs ++ oi c X))) := fun ht hg hl => st_add rfl ht hg hl
  have LL1 := oi_len (c := 0 < width) (X := [key "width", ⟨nw width, "number", 1, 40⟩])
  have LL2 := oi_len (c := fill ≠ 32 ∨ b / 16 % 2 = 1) (X := [key "fill", ⟨sw fill, "sign", 0, 0⟩])
  have LL3 := oi_len (c := side ≠ kept ∨ b / 32 % 2 = 1) (X := [key "side", ⟨side, "side", 0, 0⟩])
  have LL4 := oi_len (c := strict = true) (X := [key "strict"])
  simp only [List.length_cons, List.length_nil] at LL1 LL2 LL3 LL4
  have c4 : cutD (.str z :: (r ++ [.int width, .str (sgn fill), .str side, .bl strict])) (some (-4)) none = [.int width, .str (sgn fill), .str side, .bl strict] := by
    unfold cutD
    have hlen : (D.str z :: (r ++ [.int width, .str (sgn fill), .str side, .bl strict])).length = r.length + 5 := by simp
    have e1 : ((-4 : Int) + ((r.length + 5 : Nat) : Int)).toNat = r.length + 1 := by omega
    rw [sIx_neg (by decide), sIx_none, hlen, e1, List.drop_succ_cons, List.drop_left, List.take_of_length_le (by simp)]
  unfold F__law_word_rows tailR
  refine Ret.runs rfl ?_
  refine Ret.sq [.fz d, .fz (.int b), .ow (rowsD hd), .no, .no, .no, .no, .no] ?_ ?_
  · simp -implicitDefEqProofs [hh]
  refine Ret.sq [.fz d, .fz (.int b), .ow (rowsD hd), .fz (.int width), .fz (.str (sgn fill)), .fz (.str side), .fz (.bl strict), .no] ?_ ?_
  · rw [ed]
    simp -implicitDefEqProofs [c4]
  refine Ret.sq (E hd) ?_ ?_
  · have h0 : L2.atI (D.str z :: (r ++ [.int width, .str (sgn fill), .str side, .bl strict])) 0 = some (.str z) := ev_atI0
    by_cases hz : z = "number"
    · subst hz
      simp -implicitDefEqProofs [E, ed, h0, hk]
    · simp -implicitDefEqProofs [E, ed, h0, hk, hz]
  refine Ret.sq _ (step (c := 0 < width) (X := [key "width", ⟨nw width, "number", 1, 40⟩]) ?_ ?_ ?_) ?_
  · simp -implicitDefEqProofs [E]
  · simp -implicitDefEqProofs [E, S1, Row.d, key]
  · simp only [List.length_append, List.length_cons, List.length_nil]; omega
  refine Ret.sq _ (step (c := fill ≠ 32 ∨ b / 16 % 2 = 1) (X := [key "fill", ⟨sw fill, "sign", 0, 0⟩]) ?_ ?_ ?_) ?_
  · by_cases h1 : fill = 32 <;> simp -implicitDefEqProofs [E, hb, h1]
  · simp -implicitDefEqProofs [E, W1, Row.d, key]
  · simp only [List.length_append, List.length_cons, List.length_nil]; omega
  refine Ret.sq _ (step (c := side ≠ kept ∨ b / 32 % 2 = 1) (X := [key "side", ⟨side, "side", 0, 0⟩]) ?_ ?_ ?_) ?_
  · by_cases h1 : side = kept <;> simp -implicitDefEqProofs [E, h1]
  · simp -implicitDefEqProofs [E, Row.d, key]
  · simp only [List.length_append, List.length_cons, List.length_nil]; omega
  have ci := cut_if (c := strict = true) (r := key "strict")
  have hA : ∀ rs : List Row, rs.length ≤ 200 → hCat (.lst (rowsD rs)) (.lst (rowsD (oi (strict = true) [key "strict"]))) = some (rowsD (rs ++ oi (strict = true) [key "strict"])) := by
    intro rs hrs
    rw [ev_hCat (by rw [List.length_map, List.length_map, sizeLine_eq]; omega)]
    congr 1
    exact List.map_append.symm
  have hA2 := hA (hd ++ oi (0 < width) [key "width", ⟨nw width, "number", 1, 40⟩] ++ oi (fill ≠ 32 ∨ b / 16 % 2 = 1) [key "fill", ⟨sw fill, "sign", 0, 0⟩] ++ oi (side ≠ kept ∨ b / 32 % 2 = 1) [key "side", ⟨side, "side", 0, 0⟩]) (by simp only [List.length_append]; omega)
  simp only [← List.append_assoc] at hA2 ⊢
  generalize rowsD (hd ++ oi (0 < width) [key "width", ⟨nw width, "number", 1, 40⟩] ++ oi (fill ≠ 32 ∨ b / 16 % 2 = 1) [key "fill", ⟨sw fill, "sign", 0, 0⟩] ++ oi (side ≠ kept ∨ b / 32 % 2 = 1) [key "side", ⟨side, "side", 0, 0⟩] ++ oi (strict = true) [key "strict"]) = Z at hA2 ⊢
  simp only [E]
  generalize rowsD (hd ++ oi (0 < width) [key "width", ⟨nw width, "number", 1, 40⟩] ++ oi (fill ≠ 32 ∨ b / 16 % 2 = 1) [key "fill", ⟨sw fill, "sign", 0, 0⟩] ++ oi (side ≠ kept ∨ b / 32 % 2 = 1) [key "side", ⟨side, "side", 0, 0⟩]) = Y at hA2 ⊢
  generalize rowsD (oi (strict = true) [key "strict"]) = X at ci hA2
  simp only [Row.d, key] at ci
  refine Ret.ret ?_
  cases strict
  · simp only [Bool.false_eq_true, if_false] at ci
    simp -implicitDefEqProofs [ci, hA2]
  · simp only [if_true] at ci
    simp -implicitDefEqProofs [ci, hA2]
theorem e_word_rows (s : Spec) (h : s.Ok) (b : Int) : F__law_word_rows [s.d, .int b] = .ok (.ow (rowsD (s.rows b))) := by
  cases s with
  | num s =>
    obtain ⟨h, _⟩ := h
    refine e_tail (d := s.d) (hd := headN s b) (z := "number") (r := [.int s.fig, .int s.plc, .int s.base, .str s.sign, .int s.size, .str (sgn s.mark), .str (sgn s.point), .str s.way]) rfl (e_first_num s h b) rfl ?_ h.width (by simp)
    unfold headN
    have l1 := oi_len (c := s.base ≠ 10 ∨ b % 2 = 1) (X := [key "base", ⟨nw s.base, "number", 2, 16⟩])
    have l2 := oi_len (c := s.sign ≠ "minus" ∨ b / 2 % 2 = 1) (X := [key "sign", ⟨s.sign, "style", 0, 0⟩])
    have l3 := oi_len (c := 0 < s.size) (X := [key "groups", ⟨nw s.size, "number", 1, 9⟩, ⟨sw s.mark, "sign", 0, 0⟩])
    have l4 := oi_len (c := s.point ≠ 46 ∨ b / 4 % 2 = 1) (X := [key "point", ⟨sw s.point, "sign", 0, 0⟩])
    have l5 := oi_len (c := s.way ≠ "near" ∨ b / 8 % 2 = 1) (X := [key "way", ⟨s.way, "way", 0, 0⟩])
    simp only [List.length_append, List.length_cons, List.length_nil] at l1 l2 l3 l4 l5 ⊢; omega
  | word s =>
    obtain ⟨h, _⟩ := h
    refine e_tail (d := s.d) (hd := headW s b) (z := "word") (r := [.str (tx s.signs), .int s.least, .int s.most]) rfl (e_first_word s h b) rfl ?_ h.width (by simp)
    unfold headW
    have l1 := oi_len (c := 32 ∈ s.signs) (X := [key "blank"])
    simp only [List.length_append, List.length_cons, List.length_nil] at l1 ⊢; omega
  | cho s =>
    obtain ⟨h, _⟩ := h
    refine e_tail (d := s.d) (hd := headC s) (z := "choice") (r := [.lst (nmsD s.names)]) rfl (e_first_cho s h b) rfl ?_ h.width (by simp)
    unfold headC
    have := h.names.hi
    simp only [List.length_append, List.length_cons, List.length_nil, List.length_map]; omega
end DL
namespace DL
open PySem PySem.Spec PyProof.Rows L2
theorem runsS0 {k : Nat} {T : SM} {c : Cell} : runsS 0 k T c [] = (T (c :: List.replicate k Cell.no)).bind outS := rfl
theorem runsS1 {k : Nat} {T : SM} {c : Cell} {a : D} : runsS 1 k T c [a] = (T (c :: .fz a :: List.replicate k Cell.no)).bind outS := rfl
theorem runsS2 {k : Nat} {T : SM} {c : Cell} {a b : D} : runsS 2 k T c [a, b] = (T (c :: .fz a :: .fz b :: List.replicate k Cell.no)).bind outS := rfl
theorem runsS3 {k : Nat} {T : SM} {c : Cell} {a b d : D} : runsS 3 k T c [a, b, d] = (T (c :: .fz a :: .fz b :: .fz d :: List.replicate k Cell.no)).bind outS := rfl
noncomputable def NF (n : Int) : XD := ⟨"NoForm", ["at"], [.fz (.int n)]⟩
noncomputable def rdC (W : List Str) (p : Nat) : Cell := .ob "Reading" ["told", "at"] [.lst (W.map D.str), .int (p : Int)]
structure OkW (W : List Str) : Prop where
  few : W.length ≤ 1000
  small : ∀ w ∈ W, w.length ≤ 600
noncomputable def tokR (W : List Str) (p : Nat) (t : Str → Option D) : Res (Cell × Cell) := match W[p]? with
  | some w => match t w with
    | some d => .ok (.fz d, rdC W (p + 1))
    | none => .ex (NF p)
  | none => .ex (NF p)
noncomputable def Rdr (S : SF) (args : List D) (t : Str → Option D) : Prop := ∀ W p, OkW W → p ≤ W.length → S (rdC W p) args = tokR W p t
section
variable {W : List Str} {p q : Nat} {e : DEnv}
@[simp] theorem g_at : gFldN 0 ["Reading"] "at" (rdC W p :: e) = .ok (.int p, rdC W p :: e) := rfl
@[simp] theorem g_told : gFldN 0 ["Reading"] "told" (rdC W p :: e) = .ok (.lst (W.map D.str), rdC W p :: e) := rfl
theorem s_at {g : M D} {n : Int} (h : g (rdC W p :: e) = .ok (.int n, rdC W p :: e)) (hn : n = (q : Int)) : sSetF 0 ["Reading"] "at" g (rdC W p :: e) = .ok (.nx (rdC W q :: e)) := by
  unfold sSetF
  rw [h, hn]
  rfl
theorem m_rd {m : Str} {S : SF} {r : M (List D)} {args : List D} (hr : r (rdC W p :: e) = .ok (args, rdC W p :: e)) (h1 : m ≠ "told") (h2 : m ≠ "at") :
    gMethS "Reading" m S 0 r (rdC W p :: e) = (S (rdC W p) args).map fun q => (q.1, q.2 :: e) := by
  have hl : lookF m ["told", "at"] [D.lst (W.map D.str), D.int (p : Int)] = none := by
    unfold lookF
    rw [if_neg h1]
    unfold lookF
    rw [if_neg h2]
    rfl
  show (if ("Reading" : Str) = "Reading" ∧ lookF m ["told", "at"] [D.lst (W.map D.str), D.int (p : Int)] = none then gCallS S 0 r (rdC W p :: e) else .stuck) = _
  rw [if_pos ⟨rfl, hl⟩]
  show (r (rdC W p :: e)).bind _ = _
  rw [hr]; rfl
@[simp] theorem ev_raise {g : M D} {env : DEnv} {c f : Str} : sRaise1 c f g env = (g env).bind fun p => .ex ⟨c, [f], [.fz p.1]⟩ := rfl
theorem hLenL {W : List Str} : hLen [.lst (W.map D.str)] = some (.int W.length) := by show some (D.int _) = _; rw [List.length_map]
theorem e_taken (hW : OkW W) (hp : p ≤ W.length) : F_Reading_taken (rdC W p) [] = match W[p]? with | some w => .ok (.fz (.str w), rdC W (p + 1)) | none => .ex (NF p) := by
  unfold F_Reading_taken
  rw [runsS0]
  by_cases h : p = W.length
  · have : W[p]? = none := by rw [List.getElem?_eq_none]; omega
    rw [this]
    subst h
    simp -implicitDefEqProofs [hLenL, NF]
  · have hlt : p < W.length := by omega
    have e1 : W[p]? = some W[p] := List.getElem?_eq_getElem hlt
    rw [e1]
    have t1 : (mOpt2 hEqS (gFldN 0 ["Reading"] "at") (mOpt hLen (aCons (gFldN 0 ["Reading"] "told") aNil))) [rdC W p] = .ok (false, [rdC W p]) := by
      simp -implicitDefEqProofs [hLenL]; omega
    have t2 := s_at (W := W) (p := p) (q := p + 1) (e := []) (g := mOpt2 hAdd (gFldN 0 ["Reading"] "at") (gC (.int 1))) (n := p + 1) (by simp -implicitDefEqProofs) (by omega)
    have a1 : L2.atI (W.map D.str) (p : Int) = some (.str W[p]) := by rw [atI_nat, List.getElem?_map, e1]; rfl
    show Res.bind (sSeq _ _ [rdC W p]) outS = _
    rw [ev_sSeq, ev_sIf, t1]
    simp only [Res.bind_ok]
    rw [if_neg (by simp)]
    rw [ev_sNil]
    simp only [Res.bind_ok, ev_sThen_nx]
    rw [ev_sSeq, t2]
    simp only [Res.bind_ok, ev_sThen_nx]
    have e2 : ((p + 1 : Nat) : Int) - 1 = (p : Int) := by omega
    simp -implicitDefEqProofs [a1]
theorem t_taken {i : Nat} (hW : OkW W) (hp : p ≤ W.length) : sSet i (gMethS "Reading" "taken" F_Reading_taken 0 aNil) (rdC W p :: e) = match W[p]? with | some w => setC i (.fz (.str w)) (rdC W (p + 1) :: e) | none => .ex (NF p) := by
  rw [ev_sSet, m_rd (args := []) rfl (by decide) (by decide), e_taken hW hp]
  cases W[p]? <;> rfl
theorem okw_at {w : Str} (hW : OkW W) (h : W[p]? = some w) : w.length ≤ 600 := hW.small w (List.mem_of_getElem? h)
noncomputable def oneT (xs : List Str) (w : Str) : Option D := if w ∈ xs then some (.str w) else none
theorem r_oneOf (xs : List Str) : Rdr F_Reading_one_of [.lst (xs.map D.str)] (oneT xs) := by
  intro W p hW hp
  unfold F_Reading_one_of tokR oneT
  rw [runsS1]
  show Res.bind (sSeq _ _ (rdC W p :: [.fz (.lst (xs.map D.str)), .no])) outS = _
  rw [ev_sSeq, t_taken hW hp]
  cases h : W[p]? with
  | none => rfl
  | some w =>
    have hl := hInL_strs w xs
    by_cases hm : w ∈ xs
    · simp -implicitDefEqProofs [mInL, gLstN, cLst, hLst, hl, hm]
    · simp -implicitDefEqProofs [mInL, gLstN, cLst, hLst, hl, hm, NF]
noncomputable def sgnT (w : Str) : Option D := if w = "blank" then some (.str " ") else if w.length = 1 then some (.str w) else none
theorem r_sign : Rdr F_Reading_read_sign [] sgnT := by
  intro W p hW hp
  unfold F_Reading_read_sign tokR sgnT
  rw [runsS0]
  show Res.bind (sSeq _ _ (rdC W p :: [.no])) outS = _
  rw [ev_sSeq, t_taken hW hp]
  cases h : W[p]? with
  | none => rfl
  | some w =>
    have hw := okw_at hW h
    have hl := hLenS (z := w) (by omega)
    have e1 : ((w.length : Int) = 1) = (w.length = 1) := by apply propext; omega
    by_cases h1 : w = "blank"
    · simp -implicitDefEqProofs [h1]
    · by_cases h2 : w.length = 1
      · simp -implicitDefEqProofs [h1, hl, h2]
      · simp -implicitDefEqProofs [h1, hl, h2, e1, NF]
noncomputable def isFig (w : Str) : Bool := decide (1 ≤ w.length) && decide (w.length ≤ 2) && !(decide (w.length = 2) && decide (w.cps.toList.head? = some 48)) && w.cps.toList.all fun c => decide (48 ≤ c ∧ c ≤ 57)
noncomputable def wholeT (lo hi : Int) (w : Str) : Option D := if isFig w = true then match PySem.intText? w with
  | some n => if lo ≤ n ∧ n ≤ hi then some (.int n) else none
  | none => none else none
end
theorem fig_int (w : Str) (h : isFig w = true) : ∃ n, PySem.intText? w = some n := by
  have k1 : ∀ a ∈ List.range' 48 10, (PySem.intText? (tx [a])).isSome = true := by decide +kernel
  have k2 : ∀ a ∈ List.range' 48 10, ∀ b ∈ List.range' 48 10, (PySem.intText? (tx [a, b])).isSome = true := by decide +kernel
  unfold isFig at h
  simp only [Bool.and_eq_true, decide_eq_true_eq, List.all_eq_true] at h
  obtain ⟨⟨⟨h1, h2⟩, h3⟩, h4⟩ := h
  have e : w = tx w.cps.toList := (tx_eta w).symm
  have hl : w.length = w.cps.toList.length := by rw [Array.length_toList]; rfl
  generalize w.cps.toList = l at *
  have mem : ∀ c ∈ l, c ∈ List.range' 48 10 := fun c hc => by
    have := h4 c hc
    rw [List.mem_range'_1]; omega
  match l, hl with
  | [], hl => simp at hl; omega
  | [a], _ =>
    have := k1 a (mem a (by simp))
    rw [e]; exact Option.isSome_iff_exists.mp this
  | [a, b], _ =>
    have := k2 a (mem a (by simp)) b (mem b (by simp))
    rw [e]; exact Option.isSome_iff_exists.mp this
  | a :: b :: c :: r, hl => simp at hl; omega
section
variable {W : List Str} {p q : Nat} {e : DEnv}
theorem tab_fig : hTab kv_SIGNS (.str "figures") = some (.str figS) := by simp [hTab, tabD, kv_SIGNS, figS]
theorem fig_mem (c : Nat) : (c ∈ figS.cps.toList) = (48 ≤ c ∧ c ≤ 57) := by
  have : figS.cps.toList = List.range' 48 10 := by decide +kernel
  rw [this, List.mem_range'_1]
  apply propext; omega
theorem notIn_fig (c : Nat) : hNotInQ (.str (sgn c)) (.str figS) = some (!decide (48 ≤ c ∧ c ≤ 57)) := by
  show ((match (sgn c).cps.toList with | [c] => some (decide (c ∈ figS.cps.toList)) | _ => none).map _) = _
  show some (!decide (c ∈ figS.cps.toList)) = _
  rw [show decide (c ∈ figS.cps.toList) = decide (48 ≤ c ∧ c ≤ 57) from decide_eq_decide.mpr (by rw [fig_mem])]
theorem for_fig {a b w : Cell} : ∀ (l : List Nat) (c4 : Cell), Pl c4 →
    (l.all (fun c => decide (48 ≤ c ∧ c ≤ 57)) = true ∧ ∃ d4, Pl d4 ∧ forL (gtName 4) (sIf (mOpt2 hNotInQ (gVar 4) (mOpt (hTab kv_SIGNS) (gC (.str "figures")))) (sRaise1 "NoForm" "at" (mOpt2 hSub (gFldN 0 ["Reading"] "at") (gC (.int 1)))) sNil) (l.map fun c => .str (sgn c)) [rdC W (p + 1), a, b, w, c4] = .ok (.nx [rdC W (p + 1), a, b, w, d4]))
    ∨ (l.all (fun c => decide (48 ≤ c ∧ c ≤ 57)) = false ∧ forL (gtName 4) (sIf (mOpt2 hNotInQ (gVar 4) (mOpt (hTab kv_SIGNS) (gC (.str "figures")))) (sRaise1 "NoForm" "at" (mOpt2 hSub (gFldN 0 ["Reading"] "at") (gC (.int 1)))) sNil) (l.map fun c => .str (sgn c)) [rdC W (p + 1), a, b, w, c4] = .ex (NF p))
  | [], c4, h4 => .inl ⟨rfl, c4, h4, rfl⟩
  | c :: l, c4, h4 => by
    have q1 : gtName 4 (.str (sgn c)) [rdC W (p + 1), a, b, w, c4] = .ok (.nx [rdC W (p + 1), a, b, w, .fz (.str (sgn c))]) := by
      simp -implicitDefEqProofs [setC_pl h4, rdC]
    have hn := notIn_fig c
    by_cases hc : 48 ≤ c ∧ c ≤ 57
    · have q2 : sIf (mOpt2 hNotInQ (gVar 4) (mOpt (hTab kv_SIGNS) (gC (.str "figures")))) (sRaise1 "NoForm" "at" (mOpt2 hSub (gFldN 0 ["Reading"] "at") (gC (.int 1)))) sNil [rdC W (p + 1), a, b, w, .fz (.str (sgn c))] = .ok (.nx [rdC W (p + 1), a, b, w, .fz (.str (sgn c))]) := by
        simp -implicitDefEqProofs [tab_fig, hn, hc]
      rcases for_fig (a := a) (b := b) (w := w) l (.fz (.str (sgn c))) (.inr ⟨_, rfl⟩) with ⟨h1, d4, hd, h2⟩ | ⟨h1, h2⟩
      · refine .inl ⟨by rw [List.all_cons, h1]; simp [hc], d4, hd, ?_⟩
        rw [List.map_cons, forL, q1]
        simp only [Res.bind_ok]
        rw [q2]; exact h2
      · refine .inr ⟨by rw [List.all_cons, h1]; simp, ?_⟩
        rw [List.map_cons, forL, q1]
        simp only [Res.bind_ok]
        rw [q2]; exact h2
    · refine .inr ⟨by rw [List.all_cons]; simp [hc], ?_⟩
      have q2 : sIf (mOpt2 hNotInQ (gVar 4) (mOpt (hTab kv_SIGNS) (gC (.str "figures")))) (sRaise1 "NoForm" "at" (mOpt2 hSub (gFldN 0 ["Reading"] "at") (gC (.int 1)))) sNil [rdC W (p + 1), a, b, w, .fz (.str (sgn c))] = .ex (NF p) := by
        simp -implicitDefEqProofs [tab_fig, hn, hc, NF]
      rw [List.map_cons, forL, q1]
      simp only [Res.bind_ok]
      rw [q2]; rfl
theorem r_whole (lo hi : Int) : Rdr F_Reading_read_whole [.int lo, .int hi] (wholeT lo hi) := by
  intro W p hW hp
  unfold F_Reading_read_whole tokR
  rw [runsS2]
  show Res.bind (sSeq _ _ (rdC W p :: [.fz (.int lo), .fz (.int hi), .no, .no])) outS = _
  rw [ev_sSeq, t_taken hW hp]
  cases h : W[p]? with
  | none => rfl
  | some w =>
    have hw := okw_at hW h
    have hl := hLenS (z := w) (by omega)
    have e0 : setC 3 (.fz (.str w)) (rdC W (p + 1) :: [.fz (.int lo), .fz (.int hi), .no, .no]) = .ok (.nx [rdC W (p + 1), .fz (.int lo), .fz (.int hi), .fz (.str w), .no]) := rfl
    simp only
    rw [e0]
    simp only [Res.bind_ok, ev_sThen_nx]
    have L3 : w.length = w.cps.toList.length := by rw [Array.length_toList]; rfl
    let E : DEnv := [rdC W (p + 1), .fz (.int lo), .fz (.int hi), .fz (.str w), .no]
    have t1 : (mOr (mOpt2 hLt (mOpt hLen (aCons (gVar 3) aNil)) (gC (.int 1))) (mOr (mOpt2 hGt (mOpt hLen (aCons (gVar 3) aNil)) (gC (.int 2))) (mAnd (mOpt2 hEqS (mOpt hLen (aCons (gVar 3) aNil)) (gC (.int 2))) (mOpt2 hEqS (mOpt2 hIx (gVar 3) (gC (.int 0))) (gC (.str "0")))))) E
        = .ok (decide (w.length < 1 ∨ 2 < w.length ∨ (w.length = 2 ∧ w.cps.toList.head? = some 48)), E) := by
      by_cases c1 : w.length < 1
      · have : ((w.length : Int) < 1) = True := by apply propext; simp; omega
        simp -implicitDefEqProofs [E, hl, this, c1]
      · have z1 : ((w.length : Int) < 1) = False := by apply propext; simp; omega
        by_cases c2 : 2 < w.length
        · have z2 : ((2 : Int) < (w.length : Int)) = True := by apply propext; simp; omega
          simp -implicitDefEqProofs [E, hl, z1, z2, c1, c2]
        · have z2 : ((2 : Int) < (w.length : Int)) = False := by apply propext; simp; omega
          by_cases c3 : w.length = 2
          · have z3 : ((w.length : Int) = 2) = True := by apply propext; simp; omega
            obtain ⟨a, b, hab⟩ : ∃ a b, w.cps.toList = [a, b] := by
              match h : w.cps.toList, (by rw [← L3]; exact c3 : w.cps.toList.length = 2) with
              | [a, b], _ => exact ⟨a, b, rfl⟩
            have hx : hIx (.str w) (.int 0) = some (.str (sgn a)) := by
              show (if w.length ≤ sizeLine then (L2.atI w.cps.toList 0).map fun c => D.str (sgn c) else none) = _
              rw [if_pos (small_len (by omega)), hab]
              simp
            have hs0 : (sgn a = "0") = (a = 48) := by
              apply propext
              exact ⟨fun h => by have := tx_inj (a := [a]) (b := [48]) h; simpa using this, fun h => by rw [h]; rfl⟩
            simp -implicitDefEqProofs [E, hl, z1, z2, z3, c1, c2, c3, hx, hs0, hab]
          · have z3 : ((w.length : Int) = 2) = False := by apply propext; simp; omega
            simp -implicitDefEqProofs [E, hl, z1, z2, z3, c1, c2, c3]
    rw [ev_sSeq, ev_sIf]
    show Res.bind ((((mOr _ _ E).bind _)).bind _) outS = _
    rw [t1]
    simp only [Res.bind_ok]
    by_cases hA : w.length < 1 ∨ 2 < w.length ∨ (w.length = 2 ∧ w.cps.toList.head? = some 48)
    · have hf : wholeT lo hi w = none := by
        unfold wholeT isFig
        rw [if_neg]
        simp only [Bool.and_eq_true, decide_eq_true_eq, Bool.not_eq_true', Bool.and_eq_false_iff, decide_eq_false_iff_not]
        rintro ⟨⟨⟨x1, x2⟩, x3⟩, x4⟩
        rcases hA with y | y | ⟨y, z⟩
        · omega
        · omega
        · rcases x3 with x3 | x3
          · exact x3 y
          · exact x3 z
      rw [if_pos (decide_eq_true hA), hf]
      simp -implicitDefEqProofs [E, NF]
    · rw [if_neg (by simpa using hA)]
      simp only [ev_sNil, Res.bind_ok, ev_sThen_nx]
      rw [ev_sSeq, ev_sFor]
      have hsg : (mOpt hSgn (gVar 3)) E = .ok (w.cps.toList.map fun c => .str (sgn c), E) := by simp -implicitDefEqProofs [E, hSgn]
      rw [hsg]
      simp only [Res.bind_ok]
      rcases for_fig (W := W) (p := p) (a := .fz (.int lo)) (b := .fz (.int hi)) (w := .fz (.str w)) w.cps.toList .no (.inl rfl) with ⟨h1, d4, hd, h2⟩ | ⟨h1, h2⟩
      · rw [h2]
        simp only [Res.bind_ok, ev_sThen_nx]
        have hfig : isFig w = true := by
          unfold isFig
          rw [h1]
          simp only [Bool.and_eq_true, decide_eq_true_eq, Bool.not_eq_true', Bool.and_eq_false_iff, decide_eq_false_iff_not]
          refine ⟨⟨⟨by omega, by omega⟩, ?_⟩, trivial⟩
          by_cases y : w.length = 2
          · exact .inr fun z => hA (.inr (.inr ⟨y, z⟩))
          · exact .inl y
        obtain ⟨n, hn⟩ := fig_int w hfig
        have hI : hIntS [.str w] = some (.int n) := by
          show (if w.length ≤ 640 then (PySem.intText? w).map D.int else none) = _
          rw [if_pos (by omega), hn]; rfl
        have hwt : wholeT lo hi w = if lo ≤ n ∧ n ≤ hi then some (.int n) else none := by
          unfold wholeT
          rw [if_pos hfig, hn]
        rw [hwt]
        by_cases b1 : lo ≤ n
        · by_cases b2 : n ≤ hi
          · rw [if_pos ⟨b1, b2⟩]
            simp -implicitDefEqProofs [hI, b1, b2]
          · rw [if_neg (by omega)]
            simp -implicitDefEqProofs [hI, b1, b2, NF]
        · rw [if_neg (by omega)]
          simp -implicitDefEqProofs [hI, b1, NF]
      · rw [h2]
        have hf : wholeT lo hi w = none := by
          unfold wholeT isFig
          rw [h1, if_neg (by simp)]
        rw [hf]; rfl
end
end DL
namespace DL
open PySem PySem.Spec PyProof.Rows L2
noncomputable def rises : List Nat → Bool
  | a :: b :: r => decide (a < b) && rises (b :: r)
  | _ => true
noncomputable def sgsT (w : Str) : Option D := match tabD kv_SIGNS w with
  | some d => some d
  | none => if 2 ≤ w.length ∧ w.cps.toList.head? = some 61 ∧ rises (w.cps.toList.drop 1) = true then some (.str (tx (w.cps.toList.drop 1))) else none
theorem rngD_succ (lo : Int) (n : Nat) : rngD lo (n + 1) = .int lo :: rngD (lo + 1) n := by
  unfold rngD
  rw [List.range_succ_eq_map, List.map_cons, List.map_map]
  congr 1
  · show D.int (lo + ((0 : Nat) : Int)) = _; congr 1; omega
  · apply List.map_congr_left
    intro k _
    show D.int (lo + ((k + 1 : Nat) : Int)) = D.int (lo + 1 + (k : Int))
    congr 1; omega
theorem sgn_lt (a b : Nat) : hLt (.str (sgn a)) (.str (sgn b)) = some (decide (a < b)) := by
  show some (decide ((sgn a).cps.toList < (sgn b).cps.toList)) = _
  congr 1
  show decide ([a] < [b]) = _
  apply decide_eq_decide.mpr
  constructor
  · intro h
    cases h with
    | rel h => exact h
    | cons h => cases h
  · intro h; exact List.Lex.rel h
theorem hIx_tx {l : List Nat} {i : Int} {k c : Nat} (hi : i = (k : Int)) (hl : l.length ≤ 1000) (h : l[k]? = some c) : hIx (.str (tx l)) (.int i) = some (.str (sgn c)) := by
  show (if (tx l).length ≤ sizeLine then (L2.atI (tx l).cps.toList i).map fun c => D.str (sgn c) else none) = _
  rw [if_pos (small_len (by rw [tx_len]; omega)), tx_list, hi, atI_nat, h]; rfl
section
variable {W : List Str} {p q : Nat} {e : DEnv}
noncomputable abbrev riseBody : SM := (sIf (mNot (mOpt2 hLt (mOpt2 hIx (gVar 1) (mOpt2 hSub (gVar 2) (gC (.int 1)))) (mOpt2 hIx (gVar 1) (gVar 2)))) (sRaise1 "NoForm" "at" (mOpt2 hSub (gFldN 0 ["Reading"] "at") (gC (.int 1)))) sNil)
theorem for_rise {c0 : Nat} {l : List Nat} (hl : l.length ≤ 900) : ∀ (n k : Nat) (c2 : Cell), Pl c2 → k + (n + 1) = l.length →
    (rises (l.drop k) = true ∧ ∃ d2, Pl d2 ∧ forL (gtName 2) riseBody (rngD ((k : Int) + 2) n) [rdC W (p + 1), .fz (.str (tx (c0 :: l))), c2] = .ok (.nx [rdC W (p + 1), .fz (.str (tx (c0 :: l))), d2]))
    ∨ (rises (l.drop k) = false ∧ forL (gtName 2) riseBody (rngD ((k : Int) + 2) n) [rdC W (p + 1), .fz (.str (tx (c0 :: l))), c2] = .ex (NF p))
  | 0, k, c2, h2, hk => by
    refine .inl ⟨?_, c2, h2, rfl⟩
    have : (l.drop k).length = 1 := by rw [List.length_drop]; omega
    match hh : l.drop k, this with
    | [a], _ => rfl
  | n + 1, k, c2, h2, hk => by
    have h1 : k < l.length := by omega
    have h1' : k + 1 < l.length := by omega
    have ea : l[k]? = some l[k] := List.getElem?_eq_getElem h1
    have eb : l[k + 1]? = some l[k + 1] := List.getElem?_eq_getElem h1'
    have ed : l.drop k = l[k] :: l[k + 1] :: l.drop (k + 2) := by rw [List.drop_eq_getElem_cons h1, List.drop_eq_getElem_cons h1']
    have ed1 : l.drop (k + 1) = l[k + 1] :: l.drop (k + 2) := List.drop_eq_getElem_cons h1'
    have x1 := hIx_tx (l := c0 :: l) (i := (k : Int) + 2 - 1) (k := k + 1) (c := l[k]) (by omega) (by simp; omega) (by rw [List.getElem?_cons_succ]; exact ea)
    have x2 := hIx_tx (l := c0 :: l) (i := (k : Int) + 2) (k := k + 1 + 1) (c := l[k + 1]) (by omega) (by simp; omega) (by rw [List.getElem?_cons_succ]; exact eb)
    have q1 : gtName 2 (.int ((k : Int) + 2)) [rdC W (p + 1), .fz (.str (tx (c0 :: l))), c2] = .ok (.nx [rdC W (p + 1), .fz (.str (tx (c0 :: l))), .fz (.int ((k : Int) + 2))]) := by
      simp -implicitDefEqProofs [setC_pl h2, rdC]
    have sl := sgn_lt l[k] l[k + 1]
    rw [rngD_succ, forL, q1]
    simp only [Res.bind_ok]
    have en : ((k : Int) + 2 - 1) = (k : Int) + 1 := by omega
    rw [en] at x1
    by_cases hc : l[k] < l[k + 1]
    · have q2 : riseBody [rdC W (p + 1), .fz (.str (tx (c0 :: l))), .fz (.int ((k : Int) + 2))] = .ok (.nx [rdC W (p + 1), .fz (.str (tx (c0 :: l))), .fz (.int ((k : Int) + 2))]) := by
        simp -implicitDefEqProofs [riseBody, en, x1, x2, sl, hc]
      rw [q2]
      have ih := for_rise (c0 := c0) hl n (k + 1) (.fz (.int ((k : Int) + 2))) (.inr ⟨_, rfl⟩) (by omega)
      rw [show (((k + 1 : Nat) : Int) + 2) = (k : Int) + 2 + 1 by omega] at ih
      rcases ih with ⟨r1, d2, hd, r2⟩ | ⟨r1, r2⟩
      · refine .inl ⟨?_, d2, hd, r2⟩
        rw [ed]; rw [ed1] at r1
        unfold rises; rw [r1]; simp [hc]
      · refine .inr ⟨?_, r2⟩
        rw [ed]; rw [ed1] at r1
        unfold rises; rw [r1]; simp
    · refine .inr ⟨?_, ?_⟩
      · rw [ed]; unfold rises; simp [hc]
      · have q2 : riseBody [rdC W (p + 1), .fz (.str (tx (c0 :: l))), .fz (.int ((k : Int) + 2))] = .ex (NF p) := by
          simp -implicitDefEqProofs [riseBody, en, x1, x2, sl, hc, NF]
        rw [q2]; rfl
theorem r_signs : Rdr F_Reading_read_signs [] sgsT := by
  intro W p hW hp
  unfold F_Reading_read_signs tokR
  rw [runsS0]
  show Res.bind (sSeq _ _ (rdC W p :: [.no, .no])) outS = _
  rw [ev_sSeq, t_taken hW hp]
  cases h : W[p]? with
  | none => rfl
  | some w =>
    have hw := okw_at hW h
    have hl := hLenS (z := w) (by omega)
    have e0 : setC 1 (.fz (.str w)) (rdC W (p + 1) :: [.no, .no]) = .ok (.nx [rdC W (p + 1), .fz (.str w), .no]) := rfl
    simp only
    rw [e0]
    simp only [Res.bind_ok, ev_sThen_nx]
    rw [ev_sSeq]
    have hin : hTabIn kv_SIGNS false (.str w) = some (tabD kv_SIGNS w).isSome := rfl
    have htb : hTab kv_SIGNS (.str w) = tabD kv_SIGNS w := rfl
    unfold sgsT
    cases ht : tabD kv_SIGNS w with
    | some d =>
      rw [ht] at hin htb
      simp -implicitDefEqProofs [hin, htb]
    | none =>
      rw [ht] at hin
      have q0 : sIf (mOpt (hTabIn kv_SIGNS false) (gVar 1)) (sRet (mMap Cell.fz (mOpt (hTab kv_SIGNS) (gVar 1)))) sNil [rdC W (p + 1), .fz (.str w), .no] = .ok (.nx [rdC W (p + 1), .fz (.str w), .no]) := by
        simp -implicitDefEqProofs [hin]
      rw [q0]
      simp only [Res.bind_ok, ev_sThen_nx]
      rw [ev_sSeq]
      have L3 : w.length = w.cps.toList.length := by rw [Array.length_toList]; rfl
      have ew : w = tx w.cps.toList := (tx_eta w).symm
      by_cases h2 : 2 ≤ w.length
      · obtain ⟨c0, l, hcl⟩ : ∃ c0 l, w.cps.toList = c0 :: l := by
          cases hq : w.cps.toList with
          | nil => rw [hq] at L3; simp at L3; omega
          | cons a r => exact ⟨a, r, rfl⟩
        rw [hcl] at ew L3 ⊢
        simp only [List.length_cons] at L3
        have z1 : ((w.length : Int) < 2) = False := by apply propext; simp; omega
        have x0 := hIx_tx (l := c0 :: l) (i := 0) (k := 0) (c := c0) rfl (by simp; omega) rfl
        rw [← ew] at x0
        have hs0 : (sgn c0 = "=") = (c0 = 61) := by
          apply propext
          exact ⟨fun h => by have := tx_inj (a := [c0]) (b := [61]) h; simpa using this, fun h => by rw [h]; rfl⟩
        by_cases h61 : c0 = 61
        · have q1 : sIf (mOr (mOpt2 hLt (mOpt hLen (aCons (gVar 1) aNil)) (gC (.int 2))) (mOpt2 hNeS (mOpt2 hIx (gVar 1) (gC (.int 0))) (gC (.str "=")))) (sRaise1 "NoForm" "at" (mOpt2 hSub (gFldN 0 ["Reading"] "at") (gC (.int 1)))) sNil [rdC W (p + 1), .fz (.str w), .no] = .ok (.nx [rdC W (p + 1), .fz (.str w), .no]) := by
            simp -implicitDefEqProofs [hl, z1, x0, hs0, h61]
            simp -implicitDefEqProofs [← h61, hs0]
          rw [q1]
          simp only [Res.bind_ok, ev_sThen_nx]
          rw [ev_sSeq, ev_sFor]
          have hr : (mOpt hRng2 (aCons (gC (.int 2)) (aCons (mOpt hLen (aCons (gVar 1) aNil)) aNil))) [rdC W (p + 1), .fz (.str w), .no] = .ok (rngD (((0 : Nat) : Int) + 2) (l.length - 1), [rdC W (p + 1), .fz (.str w), .no]) := by
            have : hRng2 [.int 2, .int w.length] = some (rngD (((0 : Nat) : Int) + 2) (l.length - 1)) := by
              rw [hRng2, if_pos (by omega)]
              congr 2
              omega
            simp -implicitDefEqProofs [hl]
            rw [this]; rfl
          rw [hr]
          simp only [Res.bind_ok]
          have fr := for_rise (W := W) (p := p) (c0 := c0) (l := l) (by omega) (l.length - 1) 0 .no (.inl rfl) (by omega)
          rw [← ew, List.drop_zero] at fr
          have cs : cutS w (some 1) none = tx l := by
            rw [ew, cutS_tx, sIx_pos (by decide), sIx_none]
            simp
          have ss := ev_sliS (z := w) (l := some 1) (h := none) (small_len (by omega))
          rcases fr with ⟨r1, d2, hd, r2⟩ | ⟨r1, r2⟩
          · rw [r2, if_pos ⟨h2, by rw [h61]; rfl, r1⟩]
            simp -implicitDefEqProofs [ss, cs]
          · rw [r2, if_neg (by rintro ⟨_, _, z⟩; rw [List.drop_succ_cons, List.drop_zero, r1] at z; cases z)]
            rfl
        · rw [if_neg (by rintro ⟨_, z, _⟩; simp at z; exact h61 z)]
          simp -implicitDefEqProofs [hl, z1, x0, hs0, h61, NF]
      · have z1 : ((w.length : Int) < 2) = True := by apply propext; simp; omega
        rw [if_neg (by rintro ⟨z, _⟩; exact h2 z)]
        simp -implicitDefEqProofs [hl, z1, NF]
end
end DL
namespace DL
open PySem PySem.Spec PyProof.Rows L2
noncomputable abbrev Tk (α : Type) := α → Str → Option α
structure Op (α : Type) where
  k : Str
  f : α → α
  ts : List (Tk α)
section
variable {α : Type} (W : List Str)
noncomputable def runTs : List (Tk α) → α → Nat → Except Nat (α × Nat)
  | [], a, p => .ok (a, p)
  | t :: ts, a, p => match W[p]? with
    | some w => match t a w with
      | some b => runTs ts b (p + 1)
      | none => .error p
    | none => .error p
noncomputable def runO : List (Op α) → α → Nat → Except Nat (α × Nat)
  | [], a, p => .ok (a, p)
  | o :: os, a, p => if W[p]? = some o.k then match runTs W o.ts (o.f a) (p + 1) with
      | .ok (b, q) => runO os b q
      | .error q => .error q
    else runO os a p
noncomputable def run (ts : List (Tk α)) (os : List (Op α)) (a : α) (p : Nat) : Except Nat (α × Nat) := match runTs W ts a p with
  | .ok (b, q) => runO W os b q
  | .error q => .error q
/-- one word more -/
noncomputable def stepO : List (Op α) → α → Str → Option (List (Tk α) × List (Op α) × α)
  | [], _, _ => none
  | o :: os, a, w => if w = o.k then some (o.ts, os, o.f a) else stepO os a w
noncomputable def step : List (Tk α) × List (Op α) × α → Str → Option (List (Tk α) × List (Op α) × α)
  | (t :: ts, os, a), w => (t a w).map fun b => (ts, os, b)
  | ([], os, a), w => stepO os a w
variable {W}
theorem run_step {p : Nat} {w : Str} (h : W[p]? = some w) : ∀ {ts os} {a : α} {ts' os' a'}, step (ts, os, a) w = some (ts', os', a') → run W ts os a p = run W ts' os' a' (p + 1)
  | t :: ts, os, a, ts', os', a', hs => by
    have hs : (t a w).map (fun b => (ts, os, b)) = some (ts', os', a') := hs
    cases ht : t a w with
    | none => rw [ht] at hs; cases hs
    | some b =>
      rw [ht] at hs; cases hs
      have e : runTs W (t :: ts) a p = runTs W ts a' (p + 1) := by rw [runTs, h]; simp only [ht]
      unfold run
      rw [e]
  | [], os, a, ts', os', a', hs => by
    show runO W os a p = _
    have hs : stepO os a w = some (ts', os', a') := hs
    induction os with
    | nil => cases hs
    | cons o os ih =>
      unfold stepO at hs
      unfold runO
      by_cases hw : w = o.k
      · rw [if_pos hw] at hs; cases hs
        rw [h, if_pos (by rw [hw])]; rfl
      · rw [if_neg hw] at hs
        rw [h, if_neg (by simpa using hw)]
        exact ih hs hs
theorem run_bad {p : Nat} {w : Str} (h : W[p]? = some w) : ∀ {ts os} {a : α}, step (ts, os, a) w = none → run W ts os a p = .error p ∨ run W ts os a p = .ok (a, p)
  | t :: ts, os, a, hs => by
    have hs : (t a w).map (fun b => (ts, os, b)) = none := hs
    cases ht : t a w with
    | some b => rw [ht] at hs; cases hs
    | none =>
      left
      unfold run runTs
      rw [h]
      simp only [ht]
  | [], os, a, hs => by
    right
    show runO W os a p = _
    have hs : stepO os a w = none := hs
    induction os with
    | nil => rfl
    | cons o os ih =>
      unfold stepO at hs
      unfold runO
      by_cases hw : w = o.k
      · rw [if_pos hw] at hs; cases hs
      · rw [if_neg hw] at hs
        rw [h, if_neg (by simpa using hw)]
        exact ih hs hs
theorem run_end {p : Nat} (h : W[p]? = none) (os : List (Op α)) (a : α) : run W [] os a p = .ok (a, p) := by
  show runO W os a p = _
  induction os with
  | nil => rfl
  | cons o os ih =>
    unfold runO
    rw [h, if_neg (by simp)]
    exact ih
/-- many words -/
noncomputable def steps : List (Tk α) × List (Op α) × α → List Str → Option (List (Tk α) × List (Op α) × α)
  | s, [] => some s
  | s, w :: ws => match step s w with
    | some s' => steps s' ws
    | none => none
theorem run_steps : ∀ {ws : List Str} {p : Nat} {ts os} {a : α} {ts' os' a'}, (∀ i, i < ws.length → W[p + i]? = ws[i]?) → steps (ts, os, a) ws = some (ts', os', a') → run W ts os a p = run W ts' os' a' (p + ws.length)
  | [], p, ts, os, a, ts', os', a', _, hs => by cases hs; rfl
  | w :: ws, p, ts, os, a, ts', os', a', h, hs => by
    unfold steps at hs
    cases hh : step (ts, os, a) w with
    | none => rw [hh] at hs; cases hs
    | some s =>
      rw [hh] at hs
      obtain ⟨t1, o1, a1⟩ := s
      have h0 := h 0 (by simp)
      rw [run_step (by simpa using h0) hh, run_steps (ws := ws) (p := p + 1) (fun i hi => by
        have := h (i + 1) (by simpa using hi)
        rw [show p + 1 + i = p + (i + 1) by omega, this]; rfl) hs]
      congr 1
      simp only [List.length_cons]; omega
end
section
variable {α β : Type} {W : List Str}
noncomputable def tL (t : Tk α) : Tk (α × β) := fun a w => (t a.1 w).map fun b => (b, a.2)
noncomputable def tR (t : Tk β) : Tk (α × β) := fun a w => (t a.2 w).map fun b => (a.1, b)
noncomputable def oL (o : Op α) : Op (α × β) := ⟨o.k, fun a => (o.f a.1, a.2), o.ts.map tL⟩
noncomputable def oR (o : Op β) : Op (α × β) := ⟨o.k, fun a => (a.1, o.f a.2), o.ts.map tR⟩
theorem runTs_L : ∀ (ts : List (Tk α)) (a : α) (b : β) (p : Nat), runTs W (ts.map tL) (a, b) p = match runTs W ts a p with | .ok (a', q) => .ok ((a', b), q) | .error q => .error q
  | [], a, b, p => rfl
  | t :: ts, a, b, p => by
    rw [List.map_cons, runTs, runTs]
    cases W[p]? with
    | none => rfl
    | some w =>
      simp only [tL]
      cases t a w with
      | none => rfl
      | some a' => exact runTs_L ts a' b (p + 1)
theorem runTs_R : ∀ (ts : List (Tk β)) (a : α) (b : β) (p : Nat), runTs W (ts.map tR) (a, b) p = match runTs W ts b p with | .ok (b', q) => .ok ((a, b'), q) | .error q => .error q
  | [], a, b, p => rfl
  | t :: ts, a, b, p => by
    rw [List.map_cons, runTs, runTs]
    cases W[p]? with
    | none => rfl
    | some w =>
      simp only [tR]
      cases t b w with
      | none => rfl
      | some b' => exact runTs_R ts a b' (p + 1)
theorem runO_LR (os' : List (Op β)) : ∀ (os : List (Op α)) (a : α) (b : β) (p : Nat), runO W (os.map oL ++ os'.map oR) (a, b) p = match runO W os a p with
    | .ok (a', q) => (match runO W os' b q with | .ok (b', r) => .ok ((a', b'), r) | .error r => .error r)
    | .error q => .error q
  | [], a, b, p => by
    rw [List.map_nil, List.nil_append, runO]
    simp only
    induction os' generalizing b p with
    | nil => rfl
    | cons o os ih =>
      rw [List.map_cons, runO, runO]
      by_cases hk : W[p]? = some o.k
      · rw [if_pos (show W[p]? = some (oR o).k from hk), if_pos hk]
        simp only [oR]
        rw [runTs_R]
        cases runTs W o.ts (o.f b) (p + 1) with
        | error q => rfl
        | ok r => obtain ⟨b', q⟩ := r; exact ih b' q
      · rw [if_neg (show ¬ W[p]? = some (oR o).k from hk), if_neg hk]
        exact ih b p
  | o :: os, a, b, p => by
    rw [List.map_cons, List.cons_append, runO, runO]
    by_cases hk : W[p]? = some o.k
    · rw [if_pos (show W[p]? = some (oL o).k from hk), if_pos hk]
      simp only [oL]
      rw [runTs_L]
      cases runTs W o.ts (o.f a) (p + 1) with
      | error q => rfl
      | ok r => obtain ⟨a', q⟩ := r; exact runO_LR os' os a' b q
    · rw [if_neg (show ¬ W[p]? = some (oL o).k from hk), if_neg hk]
      exact runO_LR os' os a b p
end
end DL
namespace DL
open PySem PySem.Spec PyProof.Rows L2
section
variable {W : List Str} {p q : Nat} {e : DEnv}
theorem e_begins {k : Str} (hW : OkW W) (hp : p ≤ W.length) : F_Reading_begins (rdC W p) [.str k] = if W[p]? = some k then .ok (.fz (.bl true), rdC W (p + 1)) else .ok (.fz (.bl false), rdC W p) := by
  unfold F_Reading_begins
  rw [runsS1]
  show Res.bind (sSeq _ _ (rdC W p :: [.fz (.str k)])) outS = _
  by_cases h : p = W.length
  · have : W[p]? = none := by rw [List.getElem?_eq_none]; omega
    rw [this, if_neg (by simp)]
    subst h
    simp -implicitDefEqProofs [hLenL]
  · have hlt : p < W.length := by omega
    have e1 : W[p]? = some W[p] := List.getElem?_eq_getElem hlt
    have a1 : L2.atI (W.map D.str) (p : Int) = some (.str W[p]) := by rw [atI_nat, List.getElem?_map, e1]; rfl
    have z1 : ((p : Int) < (W.length : Int)) = True := by apply propext; simp; omega
    rw [e1]
    by_cases hk : W[p] = k
    · rw [if_pos (by rw [hk])]
      have t2 := s_at (W := W) (p := p) (q := p + 1) (e := [.fz (.str k)]) (g := mOpt2 hAdd (gFldN 0 ["Reading"] "at") (gC (.int 1))) (n := p + 1) (by simp -implicitDefEqProofs) (by omega)
      rw [hk] at a1
      simp -implicitDefEqProofs [hLenL, a1, z1, t2]
    · rw [if_neg (by simpa using hk)]
      simp -implicitDefEqProofs [hLenL, a1, z1, hk]
noncomputable abbrev bgn (k : Str) : M Bool := mOpt hBl (mOpt Cell.toD (gMethS "Reading" "begins" F_Reading_begins 0 (aCons (gC (.str k)) aNil)))
theorem t_begins {k : Str} {T U : SM} (hW : OkW W) (hp : p ≤ W.length) : sIf (bgn k) T U (rdC W p :: e) = if W[p]? = some k then T (rdC W (p + 1) :: e) else U (rdC W p :: e) := by
  rw [ev_sIf]
  unfold bgn
  rw [ev_mOpt, ev_mOpt, m_rd (args := [.str k]) rfl (by decide) (by decide), e_begins hW hp]
  split <;> rfl
variable {α : Type} {enc : α → DEnv} {Iv : α → Prop} {a b : α}
noncomputable def imp (W : List Str) (enc : α → DEnv) : Except Nat (α × Nat) → Res Out
  | .ok (b, q) => .ok (.nx (rdC W q :: enc b))
  | .error q => .ex (NF q)
structure Impl (W : List Str) (enc : α → DEnv) (Iv : α → Prop) (T : SM) (R : α → Nat → Except Nat (α × Nat)) : Prop where
  run : ∀ a p, Iv a → p ≤ W.length → T (rdC W p :: enc a) = imp W enc (R a p)
  inv : ∀ a p b q, Iv a → p ≤ W.length → R a p = .ok (b, q) → Iv b ∧ q ≤ W.length
noncomputable def thenR (R R' : α → Nat → Except Nat (α × Nat)) : α → Nat → Except Nat (α × Nat) := fun a p => match R a p with
  | .ok (b, q) => R' b q
  | .error q => .error q
theorem Impl.seq {T U : SM} {R R' : α → Nat → Except Nat (α × Nat)} (h : Impl W enc Iv T R) (h' : Impl W enc Iv U R') : Impl W enc Iv (sSeq T U) (thenR R R') := by
  refine ⟨fun a p ha hp => ?_, fun a p b q ha hp e => ?_⟩
  · rw [ev_sSeq, h.run a p ha hp]
    unfold thenR
    cases hR : R a p with
    | error q => rfl
    | ok r =>
      obtain ⟨b, q⟩ := r
      obtain ⟨hb, hq⟩ := h.inv a p b q ha hp hR
      exact h'.run b q hb hq
  · unfold thenR at e
    cases hR : R a p with
    | error q => rw [hR] at e; cases e
    | ok r =>
      obtain ⟨b', q'⟩ := r
      rw [hR] at e
      obtain ⟨hb, hq⟩ := h.inv a p b' q' ha hp hR
      exact h'.inv b' q' b q hb hq e
/-- what stands behind -/
theorem Impl.go {T U : SM} {R : α → Nat → Except Nat (α × Nat)} (h : Impl W enc Iv T R) (ha : Iv a) (hp : p ≤ W.length) : sSeq T U (rdC W p :: enc a) = match R a p with
    | .ok (b, q) => U (rdC W q :: enc b)
    | .error q => .ex (NF q) := by
  rw [ev_sSeq, h.run a p ha hp]
  cases R a p with
  | error q => rfl
  | ok r => rfl
theorem Impl.congr {T : SM} {R R' : α → Nat → Except Nat (α × Nat)} (h : Impl W enc Iv T R) (e : ∀ a p, R a p = R' a p) : Impl W enc Iv T R' := by
  have : R = R' := by funext a p; exact e a p
  rw [← this]; exact h
theorem impl_tok {m : Str} {S : SF} {r : M (List D)} {args : List D} {tD : Str → Option D} {t : Tk α} {i : Nat} (hW : OkW W) (R : Rdr S args tD) (hr : ∀ a p, Iv a → r (rdC W p :: enc a) = .ok (args, rdC W p :: enc a))
    (ht : ∀ a w, Iv a → w.length ≤ 600 → match tD w with | some d => ∃ b, t a w = some b ∧ Iv b ∧ ∀ p, setC i (.fz d) (rdC W p :: enc a) = .ok (.nx (rdC W p :: enc b)) | none => t a w = none)
    (h1 : m ≠ "told" := by decide) (h2 : m ≠ "at" := by decide) : Impl W enc Iv (sSet i (gMethS "Reading" m S 0 r)) (runTs W [t]) := by
  have key : ∀ a p, Iv a → p ≤ W.length → sSet i (gMethS "Reading" m S 0 r) (rdC W p :: enc a) = imp W enc (runTs W [t] a p) ∧ ∀ b q, runTs W [t] a p = .ok (b, q) → Iv b ∧ q ≤ W.length := by
    intro a p ha hp
    rw [ev_sSet, m_rd (hr a p ha) h1 h2, R W p hW hp]
    unfold tokR runTs
    cases h : W[p]? with
    | none => exact ⟨rfl, fun b q z => by cases z⟩
    | some w =>
      have hw := okw_at hW h
      have hlt : p < W.length := (List.getElem?_eq_some_iff.mp h).1
      have := ht a w ha hw
      simp only
      cases hd : tD w with
      | none =>
        rw [hd] at this
        simp only at this
        simp only [this]
        exact ⟨rfl, fun b q z => by cases z⟩
      | some d =>
        rw [hd] at this
        obtain ⟨b, e1, ib, e2⟩ := this
        simp only [e1, runTs]
        refine ⟨?_, fun b' q' z => by cases z; exact ⟨ib, by omega⟩⟩
        show setC i (.fz d) (rdC W (p + 1) :: enc a) = _
        rw [e2]; rfl
  exact ⟨fun a p ha hp => (key a p ha hp).1, fun a p b q ha hp => (key a p ha hp).2 b q⟩
theorem impl_op {T : SM} {k : Str} {f : α → α} {ts : List (Tk α)} (hW : OkW W) (hT : ∀ a p, Iv a → p ≤ W.length → T (rdC W p :: enc a) = imp W enc (runTs W ts (f a) p) ∧ ∀ b q, runTs W ts (f a) p = .ok (b, q) → Iv b ∧ q ≤ W.length) :
    Impl W enc Iv (sIf (bgn k) T sNil) (runO W [⟨k, f, ts⟩]) := by
  have key : ∀ a p, Iv a → p ≤ W.length → sIf (bgn k) T sNil (rdC W p :: enc a) = imp W enc (runO W [⟨k, f, ts⟩] a p) ∧ ∀ b q, runO W [⟨k, f, ts⟩] a p = .ok (b, q) → Iv b ∧ q ≤ W.length := by
    intro a p ha hp
    rw [t_begins hW hp, runO]
    by_cases hk : W[p]? = some k
    · have hlt : p < W.length := (List.getElem?_eq_some_iff.mp hk).1
      rw [if_pos hk, if_pos hk]
      obtain ⟨h1, h2⟩ := hT a (p + 1) ha (by omega)
      rw [h1]
      cases hr : runTs W ts (f a) (p + 1) with
      | error q => exact ⟨rfl, fun b q z => by cases z⟩
      | ok r =>
        obtain ⟨b, q⟩ := r
        exact ⟨rfl, fun b' q' z => by cases z; exact h2 b q hr⟩
    · rw [if_neg hk, if_neg hk]
      exact ⟨rfl, fun b q z => by cases z; exact ⟨ha, hp⟩⟩
  exact ⟨fun a p ha hp => (key a p ha hp).1, fun a p b q ha hp => (key a p ha hp).2 b q⟩
theorem impl_opI {T : SM} {k : Str} {ts : List (Tk α)} (hW : OkW W) (hT : Impl W enc Iv T (runTs W ts)) : Impl W enc Iv (sIf (bgn k) T sNil) (runO W [⟨k, id, ts⟩]) :=
  impl_op hW fun a p ha hp => ⟨hT.run a p ha hp, fun b q => hT.inv a p b q ha hp⟩
theorem runO_cons (o : Op α) (os : List (Op α)) (a : α) (p : Nat) : runO W (o :: os) a p = match runO W [o] a p with
    | .ok (b, q) => runO W os b q
    | .error q => .error q := by
  rw [runO, runO]
  by_cases hk : W[p]? = some o.k
  · rw [if_pos hk, if_pos hk]
    cases runTs W o.ts (o.f a) (p + 1) with
    | error q => rfl
    | ok r => rfl
  · rw [if_neg hk, if_neg hk]; rfl
theorem runTs_cons (t : Tk α) (ts : List (Tk α)) (a : α) (p : Nat) : runTs W (t :: ts) a p = match runTs W [t] a p with
    | .ok (b, q) => runTs W ts b q
    | .error q => .error q := by
  rw [runTs, runTs]
  cases W[p]? with
  | none => rfl
  | some w =>
    simp only
    cases t a w <;> rfl
end
noncomputable def wholeN (lo hi : Int) (w : Str) : Option Int := if isFig w = true then match PySem.intText? w with
  | some n => if lo ≤ n ∧ n ≤ hi then some n else none
  | none => none else none
theorem wholeT_eq (lo hi : Int) (w : Str) : wholeT lo hi w = (wholeN lo hi w).map D.int := by
  unfold wholeT wholeN
  split
  · cases PySem.intText? w with
    | none => rfl
    | some n => simp only; split <;> rfl
  · rfl
theorem wholeN_rng {lo hi n : Int} {w : Str} (h : wholeN lo hi w = some n) : lo ≤ n ∧ n ≤ hi := by
  unfold wholeN at h
  split at h
  · split at h
    · split at h
      · rename_i z; cases h; exact z
      · cases h
    · cases h
  · cases h
noncomputable def sgnN (w : Str) : Option Nat := if w = "blank" then some 32 else match w.cps.toList with
  | [c] => some c
  | _ => none
theorem sgnT_eq (w : Str) : sgnT w = (sgnN w).map fun c => .str (sgn c) := by
  unfold sgnT sgnN
  have L3 : w.length = w.cps.toList.length := by rw [Array.length_toList]; rfl
  have ew : w = tx w.cps.toList := (tx_eta w).symm
  split
  · rfl
  · split
    · rename_i h2
      rw [h2] at L3
      match hh : w.cps.toList, L3 with
      | [c], _ => rw [hh] at ew; simp only [Option.map_some]; rw [ew]; rfl
    · rename_i h2
      split
      · rename_i c hh; rw [hh] at L3; simp at L3; exact (h2 L3).elim
      · rfl
noncomputable def setOf (w : Str) : Option Str := (setsL.find? fun p => p.1 = w).map (·.2)
noncomputable def sgsN (w : Str) : Option (List Nat) := match setOf w with
  | some s => some s.cps.toList
  | none => if 2 ≤ w.length ∧ w.cps.toList.head? = some 61 ∧ rises (w.cps.toList.drop 1) = true then some (w.cps.toList.drop 1) else none
theorem kv_sets : kv_SIGNS = setsL.map fun p => (p.1, D.str p.2) := by
  have : ("!\"#$&'()*+,-./0123456789:;<=>?@ABCDEFGHIJKLMNOPQRSTUVWXYZ[\\]^_`abcdefghijklmnopqrstuvwxyz{|}~" : Str) = tx AN := by decide +kernel
  unfold kv_SIGNS setsL
  rw [this]; rfl
theorem tabD_sets (w : Str) : ∀ ps : List (Str × Str), tabD (ps.map fun p => (p.1, D.str p.2)) w = ((ps.find? fun p => p.1 = w).map (·.2)).map D.str
  | [] => rfl
  | p :: ps => by
    rw [List.map_cons, tabD]
    by_cases h : p.1 = w
    · rw [if_pos h, List.find?_cons_of_pos (by simpa using h)]; rfl
    · rw [if_neg h, List.find?_cons_of_neg (by simpa using h)]; exact tabD_sets w ps
theorem sgsT_eq (w : Str) : sgsT w = (sgsN w).map fun l => .str (tx l) := by
  unfold sgsT sgsN setOf
  rw [kv_sets, tabD_sets]
  cases (setsL.find? fun p => p.1 = w) with
  | some p => simp only [Option.map_some, tx_eta]
  | none =>
    simp only [Option.map_none]
    split <;> rfl
structure Tl where
  width : Int
  fill : Nat
  side : Str
  strict : Bool
noncomputable def Tl.d (t : Tl) : D := .tup [.int t.width, .str (sgn t.fill), .str t.side, .bl t.strict]
noncomputable def opW : Op Tl := ⟨"width", id, [fun a w => (wholeN 1 40 w).map fun n => { a with width := n }]⟩
noncomputable def opF : Op Tl := ⟨"fill", id, [fun a w => (sgnN w).map fun c => { a with fill := c }]⟩
noncomputable def opS (sides : List Str) : Op Tl := ⟨"side", id, [fun a w => if w ∈ sides then some { a with side := w } else none]⟩
noncomputable def opK : Op Tl := ⟨"strict", fun a => { a with strict := true }, []⟩
noncomputable def tailOps (sides : List Str) : List (Op Tl) := [opW, opF, opS sides, opK]
theorem e_tail_run {W : List Str} {p : Nat} (hW : OkW W) (hp : p ≤ W.length) (s0 : Str) (sides : List Str) : F_read_tail (rdC W p) [.str s0, .lst (sides.map D.str)] = match runO W (tailOps sides) ⟨0, 32, s0, false⟩ p with
    | .ok (t, q) => .ok (.fz t.d, rdC W q)
    | .error q => .ex (NF q) := by
  let enc : Tl → DEnv := fun t => [.fz (.str t.side), .fz (.lst (sides.map D.str)), .fz (.int t.width), .fz (.str (sgn t.fill))]
  have i1 : Impl W enc (fun t => t.strict = false) (sIf (bgn "width") (sSet 3 (gMethS "Reading" "read_whole" F_Reading_read_whole 0 (aCons (gC (.int 1)) (aCons (gC (.int 40)) aNil)))) sNil) (runO W [opW]) :=
    impl_opI hW (impl_tok hW (r_whole 1 40) (fun a p _ => rfl) fun a w ha hw => by
      rw [wholeT_eq]
      cases wholeN 1 40 w with
      | none => rfl
      | some n => exact ⟨_, rfl, ha, fun p => rfl⟩)
  have i2 : Impl W enc (fun t => t.strict = false) (sIf (bgn "fill") (sSet 4 (gMethS "Reading" "read_sign" F_Reading_read_sign 0 aNil)) sNil) (runO W [opF]) :=
    impl_opI hW (impl_tok hW r_sign (fun a p _ => rfl) fun a w ha hw => by
      rw [sgnT_eq]
      cases sgnN w with
      | none => rfl
      | some n => exact ⟨_, rfl, ha, fun p => rfl⟩)
  have i3 : Impl W enc (fun t => t.strict = false) (sIf (bgn "side") (sSet 1 (gMethS "Reading" "one_of" F_Reading_one_of 0 (aCons (gVar 2) aNil))) sNil) (runO W [opS sides]) :=
    impl_opI hW (impl_tok hW (r_oneOf sides) (fun a p _ => by simp -implicitDefEqProofs [enc]) fun a w ha hw => by
      unfold oneT
      by_cases h : w ∈ sides
      · rw [if_pos h, if_pos h]; exact ⟨_, rfl, ha, fun p => rfl⟩
      · rw [if_neg h, if_neg h])
  unfold F_read_tail
  rw [runsS2]
  show Res.bind (sSeq _ _ (rdC W p :: [.fz (.str s0), .fz (.lst (sides.map D.str)), .no, .no])) outS = _
  have z1 : sSet 3 (mMap Cell.fz (gC (.int 0))) (rdC W p :: [.fz (.str s0), .fz (.lst (sides.map D.str)), .no, .no]) = .ok (.nx (rdC W p :: [.fz (.str s0), .fz (.lst (sides.map D.str)), .fz (.int 0), .no])) := rfl
  have z2 : sSet 4 (mMap Cell.fz (gC (.str " "))) (rdC W p :: [.fz (.str s0), .fz (.lst (sides.map D.str)), .fz (.int 0), .no]) = .ok (.nx (rdC W p :: enc ⟨0, 32, s0, false⟩)) := rfl
  rw [ev_sSeq, z1]
  simp only [Res.bind_ok, ev_sThen_nx]
  rw [ev_sSeq, z2]
  simp only [Res.bind_ok, ev_sThen_nx]
  unfold tailOps
  rw [i1.go rfl hp, runO_cons opW [opF, opS sides, opK]]
  cases h1 : runO W [opW] ⟨0, 32, s0, false⟩ p with
  | error q => rfl
  | ok r =>
    obtain ⟨t1, p1⟩ := r
    obtain ⟨v1, hp1⟩ := i1.inv _ _ _ _ rfl hp h1
    simp only
    rw [i2.go v1 hp1, runO_cons opF [opS sides, opK]]
    cases h2 : runO W [opF] t1 p1 with
    | error q => rfl
    | ok r =>
      obtain ⟨t2, p2⟩ := r
      obtain ⟨v2, hp2⟩ := i2.inv _ _ _ _ v1 hp1 h2
      simp only
      rw [i3.go v2 hp2, runO_cons (opS sides) [opK]]
      cases h3 : runO W [opS sides] t2 p2 with
      | error q => rfl
      | ok r =>
        obtain ⟨t3, p3⟩ := r
        obtain ⟨v3, hp3⟩ := i3.inv _ _ _ _ v2 hp2 h3
        simp only
        have eb := e_begins (k := "strict") hW hp3
        have mr := m_rd (W := W) (p := p3) (m := "begins") (S := F_Reading_begins) (r := aCons (gC (.str "strict")) aNil) (args := [.str "strict"]) (e := enc t3) rfl (by decide) (by decide)
        rw [eb] at mr
        rw [runO, runO]
        by_cases hk : W[p3]? = some opK.k
        · rw [if_pos (show W[p3]? = some ("strict" : Str) from hk)] at mr
          rw [if_pos hk]
          simp -implicitDefEqProofs [enc] at mr
          simp -implicitDefEqProofs [enc, opK, runTs, runO, Tl.d, mr]
        · rw [if_neg (show ¬ W[p3]? = some ("strict" : Str) from hk)] at mr
          rw [if_neg hk]
          simp -implicitDefEqProofs [enc] at mr
          simp -implicitDefEqProofs [enc, Tl.d, mr, v3]
end DL
namespace DL
open PySem PySem.Spec PyProof.Rows L2
theorem e_power (b : Int) (t : Nat) (hb : 2 ≤ b ∧ b ≤ 16) (ht : t ≤ 30) : F_power_of [.int b, .int (t : Int)] = .ok (.fz (.int (b ^ t))) := by
  obtain ⟨e', qf, hI⟩ := forL_run (g := gtName 3) (T := sSet 2 (mMap Cell.fz (mOpt2 hMul (gVar 2) (gVar 0)))) (fun j e => ∃ a, Pl a ∧ e = [.fz (.int b), .fz (.int (t : Int)), .fz (.int (b ^ j)), a]) (rngD 0 t) 0 [.fz (.int b), .fz (.int (t : Int)), .fz (.int 1), .no] ⟨.no, .inl rfl, by simp⟩ (by
    rintro i hi e ⟨a, ha, rfl⟩
    have ex : (rngD 0 t)[i] = .int (0 + (i : Int)) := by simp [rngD]
    have m := ev_hMul (a := b ^ (0 + i)) (b := b) (.inr (by omega))
    refine ⟨[.fz (.int b), .fz (.int (t : Int)), .fz (.int (b ^ (0 + i))), .fz (.int (0 + (i : Int)))], [.fz (.int b), .fz (.int (t : Int)), .fz (.int (b ^ (0 + i) * b)), .fz (.int (0 + (i : Int)))], by rw [ex]; simp -implicitDefEqProofs [setC_pl ha], .inl ?_, .fz (.int (0 + (i : Int))), .inr ⟨_, rfl⟩, ?_⟩
    · simp -implicitDefEqProofs only [ev_sSet, ev_mMap, ev_mOpt2, ev_gVar_s, ev_gVar0_fz, List.getElem?_cons_succ, List.getElem?_cons_zero, Res.map_ok, Res.bind_ok, m, optR_some]
      rfl
    · rw [Int.pow_succ])
  obtain ⟨a, ha, rfl⟩ := hI
  rw [rngD_len, Nat.zero_add] at qf
  unfold F_power_of
  refine Ret.runs rfl (Ret.sq [.fz (.int b), .fz (.int (t : Int)), .fz (.int 1), .no] (by simp -implicitDefEqProofs) (Ret.sq [.fz (.int b), .fz (.int (t : Int)), .fz (.int (b ^ t)), a] ?_ (Ret.ret (by simp -implicitDefEqProofs))))
  have hr := hRng_ok (n := t) (by omega)
  rw [ev_sFor]
  have : (mOpt hRng1 (aCons (gVar 1) aNil)) [.fz (.int b), .fz (.int (t : Int)), .fz (.int 1), .no] = .ok (rngD 0 t, [.fz (.int b), .fz (.int (t : Int)), .fz (.int 1), .no]) := by simp -implicitDefEqProofs [hr]
  rw [this]
  exact qf
theorem while_stop {t : M Bool} {T : SM} {env e : DEnv} (h : t env = .ok (false, e)) : sWhile t T env = .ok (.nx e) :=
  sWhile_of (n := 1) (by unfold whileN; rw [h]; rfl) (by intro z; cases z)
theorem while_one {t : M Bool} {T : SM} {env e e2 e3 : DEnv} (h : t env = .ok (true, e)) (h2 : T e = .ok (.nx e2)) (h3 : t e2 = .ok (false, e3)) : sWhile t T env = .ok (.nx e3) :=
  sWhile_of (n := 2) (by unfold whileN; rw [h]; simp only [Res.bind_ok, if_true]; rw [h2]; simp only [Res.bind_ok]; unfold whileN; rw [h3]; rfl) (by intro z; cases z)
theorem e_fig0 (b : Int) (hb : 2 ≤ b ∧ b ≤ 16) : F_figures_of [.int 0, .int b] = .ok (.fz (.str "0")) := by
  have h0 : hIx (.str "0123456789abcdef") (.int 0) = some (.str "0") := by
    have := hIx_tx (l := ("0123456789abcdef" : Str).cps.toList) (i := 0) (k := 0) (c := 48) rfl (by decide +kernel) (by decide +kernel)
    rw [tx_eta] at this; exact this
  have hp : (0 : Int) < b := by omega
  unfold F_figures_of
  refine Ret.runs rfl (Ret.sq [.fz (.int 0), .fz (.int b), .fz (.str "0")] ?_ (Ret.sq [.fz (.int 0), .fz (.int b), .fz (.str "0")] (while_stop ?_) (Ret.ret (by simp -implicitDefEqProofs))))
  · simp -implicitDefEqProofs [hp, h0]
  · simp -implicitDefEqProofs; omega
theorem e_marks1 (k : Int) (hk : 0 ≤ k ∧ k ≤ 9) : F_marks_in [.int 1, .int k] = .ok (.fz (.int 0)) := by
  unfold F_marks_in
  by_cases h : k = 0
  · refine Ret.runs rfl (Ret.first ?_)
    simp -implicitDefEqProofs [h, Ret]
  · have h1 : 0 < k ∧ k < 1073741824 := by omega
    refine Ret.runs rfl (Ret.sq [.fz (.int 1), .fz (.int k)] ?_ (Ret.ret ?_))
    · simp -implicitDefEqProofs [h]
    · simp -implicitDefEqProofs [h1]
theorem e_group1 (k : Int) (hk : 0 ≤ k ∧ k ≤ 9) (m : Str) : F_grouped [.str "0", .int k, .str m] = .ok (.fz (.str "0")) := by
  have l0 : hLen [.str "0"] = some (.int 1) := by rw [hLenS (by decide)]; rfl
  have mk := e_marks1 k hk
  have mm : hMul (.int k) (.int 0) = some (.int (k * 0)) := ev_hMul (.inl (by omega))
  have cs := ev_sliS (z := "0") (l := none) (h := some 1) (small_len (by decide))
  have cc : cutS ("0" : Str) none (some 1) = "0" := by
    have : ("0" : Str) = tx [48] := rfl
    rw [this, cutS_tx, sIx_none, sIx_pos (by decide)]; rfl
  have hr : hRng1 [.int 0] = some (rngD 0 0) := hRng_ok (n := 0) (by decide)
  unfold F_grouped
  refine Ret.runs rfl (Ret.sq [.fz (.str "0"), .fz (.int k), .fz (.str m), .fz (.int 1), .no, .no, .no] ?_ (Ret.sq [.fz (.str "0"), .fz (.int k), .fz (.str m), .fz (.int 1), .fz (.str "0"), .no, .no] ?_ (Ret.sq [.fz (.str "0"), .fz (.int k), .fz (.str m), .fz (.int 1), .fz (.str "0"), .no, .no] ?_ (Ret.ret ?_))))
  · simp -implicitDefEqProofs [l0, mk, mm]
  · simp -implicitDefEqProofs [cs, cc]
  · simp -implicitDefEqProofs [l0, mk, hr, rngD, forL]
  · simp -implicitDefEqProofs
noncomputable def bodyLen (p : Int) : Int := 1 + (p + 1) * (if 0 < p then 1 else 0)
theorem e_body0 (b p k : Int) (c : Nat) (m : Str) (hb : 2 ≤ b ∧ b ≤ 16) (hp : 0 ≤ p ∧ p ≤ 6) (hk : 0 ≤ k ∧ k ≤ 9) : ∃ l : List Nat, (l.length : Int) = bodyLen p ∧ F_body_of [.int 0, .int b, .int p, .str (sgn c), .int k, .str m] = .ok (.fz (.str (tx l))) := by
  obtain ⟨t, rfl⟩ := Int.eq_ofNat_of_zero_le hp.1
  have pw := e_power b t hb (by omega)
  have f0 := e_fig0 b hb
  have g0 := e_group1 k hk m
  have l0 : hLen [.str "0"] = some (.int 1) := by rw [hLenS (by decide)]; rfl
  have pos : 0 < b ^ t := Int.pow_pos (by omega)
  have small : b ^ t < 1073741824 := by
    obtain ⟨n, rfl⟩ := Int.eq_ofNat_of_zero_le (a := b) (by omega)
    have h1 : n ^ t ≤ 16 ^ t := Nat.pow_le_pow_left (by omega) t
    have h2 : 16 ^ t ≤ 16 ^ 6 := Nat.pow_le_pow_right (by decide) (by omega)
    have h3 : n ^ t < 1073741824 := by have : (16 : Nat) ^ 6 = 16777216 := by decide
                                       omega
    have h4 : ((n : Int)) ^ t = ((n ^ t : Nat) : Int) := by rw [Int.natCast_pow]
    omega
  have dm : hDivmod [.int 0, .int (b ^ t)] = some (.tup [.int 0, .int 0]) := by
    show (if 0 < b ^ t ∧ b ^ t < 1073741824 then some (D.tup [.int (0 / b ^ t), .int (0 % b ^ t)]) else none) = _
    rw [if_pos ⟨pos, small⟩]; simp
  unfold F_body_of bodyLen
  generalize b ^ t = bt at pw dm
  by_cases h0 : (t : Int) = 0
  · refine ⟨[48], by simp [h0], ?_⟩
    refine Ret.runs rfl (Ret.sq [.fz (.int 0), .fz (.int b), .fz (.int (t : Int)), .fz (.str (sgn c)), .fz (.int k), .fz (.str m), .fz (.int 0), .fz (.int 0), .no, .no] ?_ (Ret.sq [.fz (.int 0), .fz (.int b), .fz (.int (t : Int)), .fz (.str (sgn c)), .fz (.int k), .fz (.str m), .fz (.int 0), .fz (.int 0), .fz (.str "0"), .no] ?_ (Ret.first ?_)))
    · simp -implicitDefEqProofs [pw, dm]
    · simp -implicitDefEqProofs [f0, g0]
    · simp -implicitDefEqProofs [h0, Ret]; rfl
  · have ht : 1 ≤ t := by omega
    have m1 : hStrMul (.str "0") (.int ((t : Int) - 1)) = some (.str (repS "0" ((t : Int) - 1).toNat)) := by
      have e1 : ("0" : Str).length = 1 := rfl
      rw [hStrMul, if_pos (by rw [e1, sizeLine_eq]; omega)]
    have m2 : repS "0" ((t : Int) - 1).toNat = tx (List.replicate (t - 1) 48) := by
      have : ((t : Int) - 1).toNat = t - 1 := by omega
      rw [this]
      unfold repS
      have e48 : ("0" : Str).cps.toList = [48] := rfl
      have key : ∀ n : Nat, (List.replicate n [48]).flatten = List.replicate n 48 := by
        intro n
        induction n with
        | zero => rfl
        | succ n ih => rw [List.replicate_succ, List.flatten_cons, ih, List.replicate_succ]; rfl
      rw [e48, key]
    have e0 : ("0" : Str) = tx [48] := rfl
    have a1 : hAdd (.str (tx [48])) (.str (sgn c)) = some (.str (tx [48, c])) := by
      rw [sgn_tx, ev_hAddS (by rw [tx_len, tx_len, sizeLine_eq]; simp), tx_app]; rfl
    have a2 : hAdd (.str (tx [48, c])) (.str (tx (List.replicate (t - 1) 48))) = some (.str (tx ([48, c] ++ List.replicate (t - 1) 48))) := by
      rw [ev_hAddS (by rw [tx_len, tx_len, sizeLine_eq]; simp; omega), tx_app]
    have a3 : hAdd (.str (tx ([48, c] ++ List.replicate (t - 1) 48))) (.str (tx [48])) = some (.str (tx (([48, c] ++ List.replicate (t - 1) 48) ++ [48]))) := by
      rw [ev_hAddS (by rw [tx_len, tx_len, sizeLine_eq]; simp; omega), tx_app]
    rw [m2] at m1
    rw [e0] at l0 f0 g0 m1
    refine ⟨([48, c] ++ List.replicate (t - 1) 48) ++ [48], ?_, ?_⟩
    · rw [if_pos (by omega)]; simp; omega
    refine Ret.runs rfl (Ret.sq [.fz (.int 0), .fz (.int b), .fz (.int (t : Int)), .fz (.str (sgn c)), .fz (.int k), .fz (.str m), .fz (.int 0), .fz (.int 0), .no, .no] ?_ (Ret.sq [.fz (.int 0), .fz (.int b), .fz (.int (t : Int)), .fz (.str (sgn c)), .fz (.int k), .fz (.str m), .fz (.int 0), .fz (.int 0), .fz (.str (tx [48])), .no] ?_ (Ret.sq [.fz (.int 0), .fz (.int b), .fz (.int (t : Int)), .fz (.str (sgn c)), .fz (.int k), .fz (.str m), .fz (.int 0), .fz (.int 0), .fz (.str (tx [48])), .no] ?_
      (Ret.sq [.fz (.int 0), .fz (.int b), .fz (.int (t : Int)), .fz (.str (sgn c)), .fz (.int k), .fz (.str m), .fz (.int 0), .fz (.int 0), .fz (.str (tx [48])), .fz (.str (tx [48]))] ?_ (Ret.ret ?_)))))
    · simp -implicitDefEqProofs [pw, dm]
    · simp -implicitDefEqProofs [f0, g0]
    · have : t ≠ 0 := by omega
      simp -implicitDefEqProofs [this]
    · simp -implicitDefEqProofs [f0]
    · rw [← e0] at m1
      generalize tx (([48, c] ++ List.replicate (t - 1) 48) ++ [48]) = zf at *
      generalize tx ([48, c] ++ List.replicate (t - 1) 48) = zm at *
      generalize tx [48] = z48 at *
      generalize tx [48, c] = zc at *
      generalize tx (List.replicate (t - 1) 48) = zr at *
      simp -implicitDefEqProofs [l0, m1, a1, a2, a3]
theorem e_ends0 (st : Str) (h : st ∈ stylesL) : ∃ l : List Nat, (l.length : Int) = (if st = "plus" ∨ st = "blank" then 1 else 0) ∧ F_ends_of [.str st, .bl false] = .ok (.fz (.tup [.str (tx l), .str ""])) := by
  have run : ∀ d, hTab kv_ABOVE (.str st) = some d → F_ends_of [.str st, .bl false] = .ok (.fz d) := by
    intro d hd
    unfold F_ends_of
    refine Ret.runs rfl (Ret.sq [.fz (.str st), .fz (.bl false)] (by simp -implicitDefEqProofs) (Ret.ret ?_))
    simp -implicitDefEqProofs [hd]
  simp only [stylesL, List.mem_cons, List.not_mem_nil, or_false] at h
  rcases h with rfl | rfl | rfl | rfl | rfl
  · exact ⟨[], by simp, run _ (by simp [hTab, tabD, kv_ABOVE]; rfl)⟩
  · exact ⟨[43], by simp, run _ (by simp [hTab, tabD, kv_ABOVE]; rfl)⟩
  · exact ⟨[32], by simp, run _ (by simp [hTab, tabD, kv_ABOVE]; rfl)⟩
  · exact ⟨[], by simp, run _ (by simp [hTab, tabD, kv_ABOVE]; rfl)⟩
  · exact ⟨[], by simp, run _ (by simp [hTab, tabD, kv_ABOVE]; rfl)⟩
noncomputable def nNs : List Str := ["width", "fill", "side", "strict", "figures", "places", "base", "sign", "size", "mark", "point", "way"]
noncomputable def nDs (n : NSp) (t : Tl) : List D := [.int t.width, .str (sgn t.fill), .str t.side, .bl t.strict, .int n.fig, .int n.plc, .int n.base, .str n.sign, .int n.size, .str (sgn n.mark), .str (sgn n.point), .str n.way]
theorem e_formInit (cl : Str) (h : cl ∈ (["WordForm", "NumberForm", "ChoiceForm"] : List Str)) (a b c d : D) : F_Form_init (.ob cl [] []) [a, b, c, d] = .ok (.fz .non, .ob cl ["width", "fill", "side", "strict"] [a, b, c, d]) := by
  simp only [List.mem_cons, List.not_mem_nil, or_false] at h
  unfold F_Form_init
  simp -implicitDefEqProofs [sSetF, h, putN, putX]
theorem e_numInit (a1 a2 a3 a4 a5 a6 a7 a8 a9 a10 a11 a12 : D) : F_NumberForm_init (.ob "NumberForm" [] []) [a1, a2, a3, a4, a5, a6, a7, a8, a9, a10, a11, a12] = .ok (.fz .non, .ob "NumberForm" nNs [a9, a10, a11, a12, a1, a2, a3, a4, a5, a6, a7, a8]) := by
  have h := e_formInit "NumberForm" (by simp) a9 a10 a11 a12
  unfold F_NumberForm_init
  simp -implicitDefEqProofs [gCallS, h, sSetF, putN, putX, nNs]
theorem e_fld (n : NSp) (t : Tl) (f : Str) {d : D} (h : lookF f nNs (nDs n t) = some d) {e : DEnv} : gFldN 0 ["NumberForm"] f (.fz (.obj "NumberForm" nNs (nDs n t)) :: e) = .ok (d, .fz (.obj "NumberForm" nNs (nDs n t)) :: e) := by
  show (optR (if ("NumberForm" : Str) ∈ (["NumberForm"] : List Str) then lookF f nNs (nDs n t) else none)).map _ = _
  rw [if_pos (by simp), h]; rfl
structure NIv (n : NSp) : Prop where
  fig : 1 ≤ n.fig ∧ n.fig ≤ 12
  plc : 0 ≤ n.plc ∧ n.plc ≤ 6
  base : 2 ≤ n.base ∧ n.base ≤ 16
  sign : n.sign ∈ stylesL
  size : 0 ≤ n.size ∧ n.size ≤ 9
theorem e_whole (n : Int) : F_is_whole [.int n] = .ok (.fz (.bl true)) := by
  have k1 : kitB "int" "int" = some true := by decide +kernel
  have k2 : kitB "int" "bool" = some false := by decide +kernel
  unfold F_is_whole
  refine Ret.runs rfl (Ret.ret ?_)
  simp -implicitDefEqProofs [hIsi, tyD, k1, k2]
theorem e_div01 : F_divisor_of [.int 0, .int 1] = .ok (.fz (.int 1)) := by
  have a0 : hAbs [.int 0] = some (.int 0) := by rfl
  have a1 : hAbs [.int 1] = some (.int 1) := by rfl
  unfold F_divisor_of
  refine Ret.runs rfl (Ret.sq [.fz (.int 0), .fz (.int 1), .no] ?_ (Ret.sq [.fz (.int 0), .fz (.int 1), .no] ?_ (Ret.sq [.fz (.int 1), .fz (.int 0), .fz (.int 0)] (while_one (e := [.fz (.int 0), .fz (.int 1), .no]) (e2 := [.fz (.int 1), .fz (.int 0), .fz (.int 0)]) ?_ ?_ ?_) (Ret.ret ?_))))
  · simp -implicitDefEqProofs [a0]
  · simp -implicitDefEqProofs [a1]
  · simp -implicitDefEqProofs
  · simp -implicitDefEqProofs
  · simp -implicitDefEqProofs
  · simp -implicitDefEqProofs
theorem e_isfrac : F_is_fraction [.tup [.int 0, .int 1]] = .ok (.fz (.bl true)) := by
  have k1 : kitB "tuple" "tuple" = some true := by decide +kernel
  have w0 := e_whole 0
  have w1 := e_whole 1
  have dd := e_div01
  have hl : hLen [.tup [.int 0, .int 1]] = some (.int 2) := rfl
  unfold F_is_fraction
  refine Ret.runs rfl (Ret.sq [.fz (.tup [.int 0, .int 1])] ?_ (Ret.sq [.fz (.tup [.int 0, .int 1])] ?_ (Ret.ret ?_)))
  · simp -implicitDefEqProofs [hIsi, tyD, k1, hl]
  · simp -implicitDefEqProofs [w0, w1]
  · simp -implicitDefEqProofs [dd]
theorem e_grid0 (b p : Int) (w : Str) (hb : 2 ≤ b ∧ b ≤ 16) (hp : 0 ≤ p ∧ p ≤ 6) : F_gridded [.tup [.int 0, .int 1], .int b, .int p, .str w] = .ok (.fz (.int 0)) := by
  obtain ⟨t, rfl⟩ := Int.eq_ofNat_of_zero_le hp.1
  have pw := e_power b t hb (by omega)
  generalize b ^ t = bt at pw
  have m0 : hMul (.int 0) (.int bt) = some (.int 0) := by rw [ev_hMul (.inl (by omega))]; simp
  have m1 : hMul (.int 0) (.int 1) = some (.int 0) := by rw [ev_hMul (.inl (by omega))]; simp
  unfold F_gridded
  refine Ret.runs rfl (Ret.sq [.fz (.tup [.int 0, .int 1]), .fz (.int b), .fz (.int (t : Int)), .fz (.str w), .fz (.int 0), .no, .no, .no] ?_ (Ret.sq [.fz (.tup [.int 0, .int 1]), .fz (.int b), .fz (.int (t : Int)), .fz (.str w), .fz (.int 0), .fz (.int 1), .no, .no] ?_
    (Ret.sq [.fz (.tup [.int 0, .int 1]), .fz (.int b), .fz (.int (t : Int)), .fz (.str w), .fz (.int 0), .fz (.int 1), .fz (.int 0), .no] ?_ (Ret.sq [.fz (.tup [.int 0, .int 1]), .fz (.int b), .fz (.int (t : Int)), .fz (.str w), .fz (.int 0), .fz (.int 1), .fz (.int 0), .fz (.int 0)] ?_ (Ret.first ?_)))))
  · simp -implicitDefEqProofs [pw, m0]
  · simp -implicitDefEqProofs
  · simp -implicitDefEqProofs
  · simp -implicitDefEqProofs [m1]
  · simp -implicitDefEqProofs [Ret]
theorem e_steps0 (n : NSp) (t : Tl) (h : NIv n) : F_NumberForm_steps_of [.obj "NumberForm" nNs (nDs n t), .tup [.int 0, .int 1]] = .ok (.fz (.int 0)) := by
  have f1 := fun e => e_fld n t "base" (d := .int n.base) (by simp [nNs, nDs, lookF]) (e := e)
  have f2 := fun e => e_fld n t "places" (d := .int n.plc) (by simp [nNs, nDs, lookF]) (e := e)
  have f3 := fun e => e_fld n t "way" (d := .str n.way) (by simp [nNs, nDs, lookF]) (e := e)
  have f4 := fun e => e_fld n t "figures" (d := .int n.fig) (by simp [nNs, nDs, lookF]) (e := e)
  have fr := e_isfrac
  have gr := e_grid0 n.base n.plc n.way h.base h.plc
  have ab : hAbs [.int 0] = some (.int 0) := rfl
  obtain ⟨k, hk⟩ := Int.eq_ofNat_of_zero_le (a := n.fig + n.plc) (by have := h.fig; have := h.plc; omega)
  have pw := e_power n.base k h.base (by have := h.fig; have := h.plc; omega)
  have pos : 0 < n.base ^ k := Int.pow_pos (by have := h.base; omega)
  generalize n.base ^ k = bk at pw pos
  have np : ¬ bk ≤ 0 := by omega
  unfold F_NumberForm_steps_of
  generalize nDs n t = ds at *
  refine Ret.runs rfl (Ret.sq [.fz (.obj "NumberForm" nNs ds), .fz (.tup [.int 0, .int 1]), .no] ?_ (Ret.sq [.fz (.obj "NumberForm" nNs ds), .fz (.tup [.int 0, .int 1]), .fz (.int 0)] ?_ (Ret.sq [.fz (.obj "NumberForm" nNs ds), .fz (.tup [.int 0, .int 1]), .fz (.int 0)] ?_ (Ret.ret ?_))))
  · simp -implicitDefEqProofs [fr]
  · simp -implicitDefEqProofs [f1, f2, f3, gr]
  · simp -implicitDefEqProofs [f1, f2, f4, ab, hk, pw, np]
  · simp -implicitDefEqProofs
theorem short_eq (n : NSp) : n.short = bodyLen n.plc + (if n.sign = "plus" ∨ n.sign = "blank" then 1 else 0) := rfl
theorem e_lead0 (n : NSp) (t : Tl) (h : NIv n) : ∃ l r : List Nat, ((l.length + r.length : Nat) : Int) = n.short ∧ l.length ≤ 1 ∧ r.length ≤ 20 ∧ F_NumberForm_lead_and_rest [.obj "NumberForm" nNs (nDs n t), .int 0] = .ok (.fz (.tup [.str (tx l), .str (tx r)])) := by
  have f1 := fun e => e_fld n t "base" (d := .int n.base) (by simp [nNs, nDs, lookF]) (e := e)
  have f2 := fun e => e_fld n t "places" (d := .int n.plc) (by simp [nNs, nDs, lookF]) (e := e)
  have f3 := fun e => e_fld n t "point" (d := .str (sgn n.point)) (by simp [nNs, nDs, lookF]) (e := e)
  have f4 := fun e => e_fld n t "size" (d := .int n.size) (by simp [nNs, nDs, lookF]) (e := e)
  have f5 := fun e => e_fld n t "mark" (d := .str (sgn n.mark)) (by simp [nNs, nDs, lookF]) (e := e)
  have f6 := fun e => e_fld n t "sign" (d := .str n.sign) (by simp [nNs, nDs, lookF]) (e := e)
  have ab : hAbs [.int 0] = some (.int 0) := rfl
  obtain ⟨l, hl, ql⟩ := e_ends0 n.sign h.sign
  obtain ⟨r, hr, qr⟩ := e_body0 n.base n.plc n.size n.point (sgn n.mark) h.base h.plc h.size
  have hp := h.plc
  have hr2 : r.length ≤ 20 := by
    unfold bodyLen at hr
    split at hr <;> omega
  have hl1 : l.length ≤ 1 := by split at hl <;> omega
  refine ⟨l, r, by rw [short_eq, ← hl, ← hr]; omega, hl1, hr2, ?_⟩
  have e0 : ("" : Str) = tx [] := rfl
  have ad : hAdd (.str (tx r)) (.str "") = some (.str (tx r)) := by
    rw [e0, ev_hAddS (by rw [tx_len, tx_len, sizeLine_eq]; simp; omega), tx_app, List.append_nil]
  unfold F_NumberForm_lead_and_rest
  generalize nDs n t = ds at *
  refine Ret.runs rfl (Ret.sq [.fz (.obj "NumberForm" nNs ds), .fz (.int 0), .fz (.str (tx l)), .fz (.str ""), .no] ?_ (Ret.sq [.fz (.obj "NumberForm" nNs ds), .fz (.int 0), .fz (.str (tx l)), .fz (.str ""), .fz (.str (tx r))] ?_ (Ret.ret ?_)))
  · simp -implicitDefEqProofs [f6, ql]
  · simp -implicitDefEqProofs [f1, f2, f3, f4, f5, ab, qr]
  · simp -implicitDefEqProofs [ad]
theorem e_core0 (n : NSp) (t : Tl) (h : NIv n) : ∃ z : List Nat, (z.length : Int) = n.short ∧ z.length ≤ 30 ∧ F_NumberForm_core [.obj "NumberForm" nNs (nDs n t), .tup [.int 0, .int 1]] = .ok (.fz (.str (tx z))) := by
  obtain ⟨l, r, hs, h1, h2, ql⟩ := e_lead0 n t h
  have st := e_steps0 n t h
  refine ⟨l ++ r, by rw [List.length_append]; exact hs, by rw [List.length_append]; omega, ?_⟩
  have ad : hAdd (.str (tx l)) (.str (tx r)) = some (.str (tx (l ++ r))) := by rw [ev_hAddS (by rw [tx_len, tx_len, sizeLine_eq]; omega), tx_app]
  have lk1 : lookF "steps_of" nNs (nDs n t) = none := by simp [nNs, nDs, lookF]
  have lk2 : lookF "lead_and_rest" nNs (nDs n t) = none := by simp [nNs, nDs, lookF]
  unfold F_NumberForm_core
  generalize nDs n t = ds at *
  refine Ret.runs rfl (Ret.sq [.fz (.obj "NumberForm" nNs ds), .fz (.tup [.int 0, .int 1]), .fz (.str (tx l)), .fz (.str (tx r))] ?_ (Ret.ret ?_))
  · simp -implicitDefEqProofs [gMeth, lk1, lk2, st, ql]
  · simp -implicitDefEqProofs [ad]
end DL
namespace DL
open PySem PySem.Spec PyProof.Rows L2
noncomputable def tFig : Tk NSp := fun a w => (wholeN 1 12 w).map fun n => { a with fig := n }
noncomputable def tPlc : Tk NSp := fun a w => (wholeN 0 6 w).map fun n => { a with plc := n }
noncomputable def tSize : Tk NSp := fun a w => (wholeN 1 9 w).map fun n => { a with size := n }
noncomputable def tMark : Tk NSp := fun a w => (sgnN w).map fun n => { a with mark := n }
noncomputable def opBase : Op NSp := ⟨"base", id, [fun a w => (wholeN 2 16 w).map fun n => { a with base := n }]⟩
noncomputable def opSign : Op NSp := ⟨"sign", id, [fun a w => if w ∈ stylesL then some { a with sign := w } else none]⟩
noncomputable def opGroups : Op NSp := ⟨"groups", id, [tSize, tMark]⟩
noncomputable def opPoint : Op NSp := ⟨"point", id, [fun a w => (sgnN w).map fun n => { a with point := n }]⟩
noncomputable def opWay : Op NSp := ⟨"way", id, [fun a w => if w ∈ waysL then some { a with way := w } else none]⟩
noncomputable def numOps : List (Op NSp) := [opBase, opSign, opGroups, opPoint, opWay]
noncomputable def n0 : NSp := ⟨0, 0, 10, "minus", 0, 44, 46, "near", 0, 0, "", false⟩
section
variable {W : List Str} {p q : Nat} {e : DEnv}
theorem t_tok {m : Str} {S : SF} {r : M (List D)} {args : List D} {tD : Str → Option D} {i : Nat} (hW : OkW W) (hp : p ≤ W.length) (R : Rdr S args tD) (hr : r (rdC W p :: e) = .ok (args, rdC W p :: e)) (h1 : m ≠ "told" := by decide) (h2 : m ≠ "at" := by decide) :
    sSet i (gMethS "Reading" m S 0 r) (rdC W p :: e) = match W[p]? with
      | some w => (match tD w with | some d => setC i (.fz d) (rdC W (p + 1) :: e) | none => .ex (NF p))
      | none => .ex (NF p) := by
  rw [ev_sSet, m_rd hr h1 h2, R W p hW hp]
  unfold tokR
  cases W[p]? with
  | none => rfl
  | some w => simp only; cases tD w <;> rfl
theorem c_rd {S : SF} {r : M (List D)} {args : List D} (hr : r (rdC W p :: e) = .ok (args, rdC W p :: e)) : gCallS S 0 r (rdC W p :: e) = (S (rdC W p) args).map fun q => (q.1, q.2 :: e) := by
  show (r (rdC W p :: e)).bind _ = _
  rw [hr]; rfl
end
noncomputable def encN (n : NSp) : DEnv := [.fz (.int n.fig), .fz (.int n.plc), .fz (.int n.base), .fz (.str n.sign), .fz (.int n.size), .fz (.str (sgn n.mark)), .fz (.str (sgn n.point)), .fz (.str n.way), .no, .no, .no, .no, .no]
noncomputable def NIw (n : NSp) : Prop := NIv n ∧ n.way ∈ waysL
section
variable {W : List Str} {p q : Nat} {e : DEnv}
theorem iBase (hW : OkW W) : Impl W encN NIw (sIf (bgn "base") (sSet 3 (gMethS "Reading" "read_whole" F_Reading_read_whole 0 (aCons (gC (.int 2)) (aCons (gC (.int 16)) aNil)))) sNil) (runO W [opBase]) :=
  impl_opI hW (impl_tok hW (r_whole 2 16) (fun a p _ => rfl) fun a w ha hw => by
    rw [wholeT_eq]
    cases h : wholeN 2 16 w with
    | none => rfl
    | some n => exact ⟨_, rfl, ⟨⟨ha.1.1, ha.1.2, wholeN_rng h, ha.1.4, ha.1.5⟩, ha.2⟩, fun p => rfl⟩)
theorem iSign (hW : OkW W) : Impl W encN NIw (sIf (bgn "sign") (sSet 4 (gMethS "Reading" "one_of" F_Reading_one_of 0 (aCons (mOpt Cell.toD (fun env => .ok (.ow kl_STYLES, env))) aNil))) sNil) (runO W [opSign]) :=
  impl_opI hW (impl_tok hW (r_oneOf stylesL) (fun a p _ => rfl) fun a w ha hw => by
    unfold oneT
    by_cases h : w ∈ stylesL
    · rw [if_pos h, if_pos h]; exact ⟨_, rfl, ⟨⟨ha.1.1, ha.1.2, ha.1.3, h, ha.1.5⟩, ha.2⟩, fun p => rfl⟩
    · rw [if_neg h, if_neg h])
theorem iGroups (hW : OkW W) : Impl W encN NIw (sIf (bgn "groups") (sSeq (sSet 5 (gMethS "Reading" "read_whole" F_Reading_read_whole 0 (aCons (gC (.int 1)) (aCons (gC (.int 9)) aNil))))
  (sSet 6 (gMethS "Reading" "read_sign" F_Reading_read_sign 0 aNil))) sNil) (runO W [opGroups]) :=
  impl_opI hW ((Impl.seq (impl_tok (t := tSize) hW (r_whole 1 9) (fun a p _ => rfl) fun a w ha hw => by
    rw [wholeT_eq]
    unfold tSize
    cases h : wholeN 1 9 w with
    | none => rfl
    | some n => exact ⟨{ a with size := n }, rfl, ⟨⟨ha.1.1, ha.1.2, ha.1.3, ha.1.4, by have := wholeN_rng h; show 0 ≤ n ∧ n ≤ 9; omega⟩, ha.2⟩, fun p => rfl⟩) (impl_tok (t := tMark) hW r_sign (fun a p _ => rfl) fun a w ha hw => by
    rw [sgnT_eq]
    unfold tMark
    cases h : sgnN w with
    | none => rfl
    | some n => exact ⟨_, rfl, ⟨⟨ha.1.1, ha.1.2, ha.1.3, ha.1.4, ha.1.5⟩, ha.2⟩, fun p => rfl⟩)).congr fun a p => (runTs_cons tSize [tMark] a p).symm)
theorem iPoint (hW : OkW W) : Impl W encN NIw (sIf (bgn "point") (sSet 7 (gMethS "Reading" "read_sign" F_Reading_read_sign 0 aNil)) sNil) (runO W [opPoint]) :=
  impl_opI hW (impl_tok hW r_sign (fun a p _ => rfl) fun a w ha hw => by
    rw [sgnT_eq]
    cases h : sgnN w with
    | none => rfl
    | some n => exact ⟨_, rfl, ⟨⟨ha.1.1, ha.1.2, ha.1.3, ha.1.4, ha.1.5⟩, ha.2⟩, fun p => rfl⟩)
theorem iWay (hW : OkW W) : Impl W encN NIw (sIf (bgn "way") (sSet 8 (gMethS "Reading" "one_of" F_Reading_one_of 0 (aCons (mOpt Cell.toD (fun env => .ok (.ow kl_WAYS, env))) aNil))) sNil) (runO W [opWay]) :=
  impl_opI hW (impl_tok hW (r_oneOf waysL) (fun a p _ => rfl) fun a w ha hw => by
    unfold oneT
    by_cases h : w ∈ waysL
    · rw [if_pos h, if_pos h]; exact ⟨_, rfl, ⟨⟨ha.1.1, ha.1.2, ha.1.3, ha.1.4, ha.1.5⟩, h⟩, fun p => rfl⟩
    · rw [if_neg h, if_neg h])
theorem e_allow {b : Bool} {l w : Int} {q : Nat} : F_allow_strict (rdC W q) [.bl b, .int l, .int w] = if b = true ∧ w < l then .ex (NF ((q : Int) - 1)) else .ok (.fz .non, rdC W q) := by
  unfold F_allow_strict
  rw [runsS3]
  cases b
  · simp -implicitDefEqProofs
  · by_cases h : w < l
    · simp -implicitDefEqProofs [h, NF]
    · simp -implicitDefEqProofs [h]
noncomputable def tl0 (s : Str) : Tl := ⟨0, 32, s, false⟩
theorem e_read_number (hW : OkW W) (hp : p ≤ W.length) : F_read_number_form (rdC W p) [] = match run W ([tFig, tPlc].map tL) (numOps.map oL ++ (tailOps sides4).map oR) (n0, tl0 "right") p with
    | .error q => .ex (NF q)
    | .ok (nt, q) => if nt.2.strict = true ∧ nt.2.width < nt.1.short then .ex (NF ((q : Int) - 1)) else .ok (.fz (.obj "NumberForm" nNs (nDs nt.1 nt.2)), rdC W q) := by
  unfold run
  rw [runTs_L]
  unfold F_read_number_form
  rw [runsS0]
  show Res.bind (sSeq _ _ (rdC W p :: [.no, .no, .no, .no, .no, .no, .no, .no, .no, .no, .no, .no, .no])) outS = _
  rw [ev_sSeq, t_tok hW hp (r_whole 1 12) rfl, runTs]
  cases hw1 : W[p]? with
  | none => rfl
  | some w1 =>
    have hp1 : p + 1 ≤ W.length := (List.getElem?_eq_some_iff.mp hw1).1
    simp only
    rw [wholeT_eq]
    unfold tFig
    cases hf : wholeN 1 12 w1 with
    | none => rfl
    | some fig =>
      have rf := wholeN_rng hf
      simp -implicitDefEqProofs only [Option.map_some]
      have e1 : setC 1 (.fz (.int fig)) (rdC W (p + 1) :: [.no, .no, .no, .no, .no, .no, .no, .no, .no, .no, .no, .no, .no]) = .ok (.nx (rdC W (p + 1) :: [.fz (.int fig), .no, .no, .no, .no, .no, .no, .no, .no, .no, .no, .no, .no])) := rfl
      rw [e1]
      simp -implicitDefEqProofs only [Res.bind_ok, ev_sThen_nx]
      rw [ev_sSeq, t_tok hW hp1 (r_whole 0 6) rfl, runTs]
      cases hw2 : W[p + 1]? with
      | none => rfl
      | some w2 =>
        have hp2 : p + 1 + 1 ≤ W.length := (List.getElem?_eq_some_iff.mp hw2).1
        simp only
        rw [wholeT_eq]
        unfold tPlc
        cases hg : wholeN 0 6 w2 with
        | none => rfl
        | some plc =>
          have rg := wholeN_rng hg
          simp -implicitDefEqProofs only [Option.map_some, runTs]
          have iv : NIw { n0 with fig := fig, plc := plc } := ⟨⟨rf, rg, by show (2 : Int) ≤ 10 ∧ (10 : Int) ≤ 16; omega, by simp [n0, stylesL], by show (0 : Int) ≤ 0 ∧ (0 : Int) ≤ 9; omega⟩, by simp [n0, waysL]⟩
          have e2 : setC 2 (.fz (.int plc)) (rdC W (p + 1 + 1) :: [.fz (.int fig), .no, .no, .no, .no, .no, .no, .no, .no, .no, .no, .no, .no]) = .ok (.nx (rdC W (p + 1 + 1) :: [.fz (.int fig), .fz (.int plc), .no, .no, .no, .no, .no, .no, .no, .no, .no, .no, .no])) := rfl
          rw [e2]
          simp -implicitDefEqProofs only [Res.bind_ok, ev_sThen_nx]
          rw [ev_sSeq, show sSet 3 (mMap Cell.fz (gC (.int 10))) (rdC W (p + 1 + 1) :: [.fz (.int fig), .fz (.int plc), .no, .no, .no, .no, .no, .no, .no, .no, .no, .no, .no]) = .ok (.nx (rdC W (p + 1 + 1) :: [.fz (.int fig), .fz (.int plc), .fz (.int 10), .no, .no, .no, .no, .no, .no, .no, .no, .no, .no])) from rfl]
          simp -implicitDefEqProofs only [Res.bind_ok, ev_sThen_nx]
          rw [ev_sSeq, show sSet 4 (mMap Cell.fz (gC (.str "minus"))) (rdC W (p + 1 + 1) :: [.fz (.int fig), .fz (.int plc), .fz (.int 10), .no, .no, .no, .no, .no, .no, .no, .no, .no, .no]) = .ok (.nx (rdC W (p + 1 + 1) :: [.fz (.int fig), .fz (.int plc), .fz (.int 10), .fz (.str "minus"), .no, .no, .no, .no, .no, .no, .no, .no, .no])) from rfl]
          simp -implicitDefEqProofs only [Res.bind_ok, ev_sThen_nx]
          rw [ev_sSeq, show sSet 5 (mMap Cell.fz (gC (.int 0))) (rdC W (p + 1 + 1) :: [.fz (.int fig), .fz (.int plc), .fz (.int 10), .fz (.str "minus"), .no, .no, .no, .no, .no, .no, .no, .no, .no]) = .ok (.nx (rdC W (p + 1 + 1) :: [.fz (.int fig), .fz (.int plc), .fz (.int 10), .fz (.str "minus"), .fz (.int 0), .no, .no, .no, .no, .no, .no, .no, .no])) from rfl]
          simp -implicitDefEqProofs only [Res.bind_ok, ev_sThen_nx]
          rw [ev_sSeq, show sSet 6 (mMap Cell.fz (gC (.str ","))) (rdC W (p + 1 + 1) :: [.fz (.int fig), .fz (.int plc), .fz (.int 10), .fz (.str "minus"), .fz (.int 0), .no, .no, .no, .no, .no, .no, .no, .no]) = .ok (.nx (rdC W (p + 1 + 1) :: [.fz (.int fig), .fz (.int plc), .fz (.int 10), .fz (.str "minus"), .fz (.int 0), .fz (.str ","), .no, .no, .no, .no, .no, .no, .no])) from rfl]
          simp -implicitDefEqProofs only [Res.bind_ok, ev_sThen_nx]
          rw [ev_sSeq, show sSet 7 (mMap Cell.fz (gC (.str "."))) (rdC W (p + 1 + 1) :: [.fz (.int fig), .fz (.int plc), .fz (.int 10), .fz (.str "minus"), .fz (.int 0), .fz (.str ","), .no, .no, .no, .no, .no, .no, .no]) = .ok (.nx (rdC W (p + 1 + 1) :: [.fz (.int fig), .fz (.int plc), .fz (.int 10), .fz (.str "minus"), .fz (.int 0), .fz (.str ","), .fz (.str "."), .no, .no, .no, .no, .no, .no])) from rfl]
          simp -implicitDefEqProofs only [Res.bind_ok, ev_sThen_nx]
          rw [ev_sSeq, show sSet 8 (mMap Cell.fz (gC (.str "near"))) (rdC W (p + 1 + 1) :: [.fz (.int fig), .fz (.int plc), .fz (.int 10), .fz (.str "minus"), .fz (.int 0), .fz (.str ","), .fz (.str "."), .no, .no, .no, .no, .no, .no]) = .ok (.nx (rdC W (p + 1 + 1) :: encN { n0 with fig := fig, plc := plc })) from rfl]
          simp -implicitDefEqProofs only [Res.bind_ok, ev_sThen_nx]
          generalize ({ n0 with fig := fig, plc := plc } : NSp) = n at iv ⊢
          generalize p + 1 + 1 = p2 at hp2 ⊢
          rw [runO_LR]
          unfold numOps
          rw [(iBase hW).go iv hp2, runO_cons opBase [opSign, opGroups, opPoint, opWay]]
          cases h1 : runO W [opBase] n p2 with
          | error q => rfl
          | ok r =>
            obtain ⟨n1, p3⟩ := r
            obtain ⟨v1, hp3⟩ := (iBase hW).inv _ _ _ _ iv hp2 h1
            simp only
            rw [(iSign hW).go v1 hp3, runO_cons opSign [opGroups, opPoint, opWay]]
            cases h2 : runO W [opSign] n1 p3 with
            | error q => rfl
            | ok r =>
              obtain ⟨n2, p4⟩ := r
              obtain ⟨v2, hp4⟩ := (iSign hW).inv _ _ _ _ v1 hp3 h2
              simp only
              rw [(iGroups hW).go v2 hp4, runO_cons opGroups [opPoint, opWay]]
              cases h3 : runO W [opGroups] n2 p4 with
              | error q => rfl
              | ok r =>
                obtain ⟨n3, p5⟩ := r
                obtain ⟨v3, hp5⟩ := (iGroups hW).inv _ _ _ _ v2 hp4 h3
                simp only
                rw [(iPoint hW).go v3 hp5, runO_cons opPoint [opWay]]
                cases h4 : runO W [opPoint] n3 p5 with
                | error q => rfl
                | ok r =>
                  obtain ⟨n4, p6⟩ := r
                  obtain ⟨v4, hp6⟩ := (iPoint hW).inv _ _ _ _ v3 hp5 h4
                  simp only
                  rw [(iWay hW).go v4 hp6]
                  cases h5 : runO W [opWay] n4 p6 with
                  | error q => rfl
                  | ok r =>
                    obtain ⟨n5, p7⟩ := r
                    obtain ⟨v5, hp7⟩ := (iWay hW).inv _ _ _ _ v4 hp6 h5
                    simp -implicitDefEqProofs only
                    have et := e_tail_run hW hp7 "right" sides4
                    have cr := c_rd (W := W) (p := p7) (e := encN n5) (S := F_read_tail) (r := (aCons (gC (.str "right")) (aCons (mOpt Cell.toD (mMap Cell.ow (mOpt2 hCat (mOpt Cell.toD (fun env => .ok (.ow kl_SIDES, env))) (mOpt Cell.toD (mMap Cell.ow (mOpt okLen (aCons (gC (.str "inside")) aNil))))))) aNil))) (args := [.str "right", .lst (sides4.map D.str)]) (by
                      have hc := ev_hCat (a := kl_SIDES) (b := [.str "inside"]) (by rw [sizeLine_eq]; decide)
                      simp -implicitDefEqProofs [hc]
                      rfl)
                    rw [et] at cr
                    rw [ev_sSeq, ev_sAsg, ev_mOpt, cr]
                    unfold tl0
                    cases h6 : runO W (tailOps sides4) ⟨0, 32, "right", false⟩ p7 with
                    | error q => rfl
                    | ok r =>
                      obtain ⟨t, p8⟩ := r
                      obtain ⟨z, hz1, hz2, hz3⟩ := e_core0 n5 t v5.1
                      have hzl : hLen [.str (tx z)] = some (.int n5.short) := by rw [hLenS (by rw [tx_len]; omega), tx_len, hz1]
                      have hal := e_allow (W := W) (b := t.strict) (l := n5.short) (w := t.width) (q := p8)
                      have hi := e_numInit (.int n5.fig) (.int n5.plc) (.int n5.base) (.str n5.sign) (.int n5.size) (.str (sgn n5.mark)) (.str (sgn n5.point)) (.str n5.way) (.int t.width) (.str (sgn t.fill)) (.str t.side) (.bl t.strict)
                      have ef : [D.int t.width, .str (sgn t.fill), .str t.side, .bl t.strict, .int n5.fig, .int n5.plc, .int n5.base, .str n5.sign, .int n5.size, .str (sgn n5.mark), .str (sgn n5.point), .str n5.way] = nDs n5 t := rfl
                      rw [ef] at hi
                      have lk : lookF "core" nNs (nDs n5 t) = none := by simp [nNs, nDs, lookF]
                      simp -implicitDefEqProofs only
                      generalize nDs n5 t = ds at hz3 hi lk ⊢
                      have ca : gCallS F_allow_strict 0 (aCons (gVar 12) (aCons (mOpt hLen (aCons (mOpt Cell.toD (gMeth "NumberForm" "core" F_NumberForm_core (gVar 13) (aCons (mMap D.tup (mOpt okLen (aCons (gC (.int 0)) (aCons (gC (.int 1)) aNil)))) aNil))) aNil)) (aCons (gVar 9) aNil)))
                          [rdC W p8, .fz (.int n5.fig), .fz (.int n5.plc), .fz (.int n5.base), .fz (.str n5.sign), .fz (.int n5.size), .fz (.str (sgn n5.mark)), .fz (.str (sgn n5.point)), .fz (.str n5.way), .fz (.int t.width), .fz (.str (sgn t.fill)), .fz (.str t.side), .fz (.bl t.strict), .ob "NumberForm" nNs ds]
                          = (F_allow_strict (rdC W p8) [.bl t.strict, .int n5.short, .int t.width]).map fun q => (q.1, q.2 :: [.fz (.int n5.fig), .fz (.int n5.plc), .fz (.int n5.base), .fz (.str n5.sign), .fz (.int n5.size), .fz (.str (sgn n5.mark)), .fz (.str (sgn n5.point)), .fz (.str n5.way), .fz (.int t.width), .fz (.str (sgn t.fill)), .fz (.str t.side), .fz (.bl t.strict), .fz (.obj "NumberForm" nNs ds)]) := by
                        simp -implicitDefEqProofs [gCallS, rdC, gMeth, lk, hz3, hzl]
                      rw [hal] at ca
                      by_cases hs : t.strict = true ∧ t.width < n5.short
                      · rw [if_pos hs] at ca
                        rw [if_pos hs]
                        simp -implicitDefEqProofs [Tl.d, encN, gMake, hi, ca]
                      · rw [if_neg hs] at ca
                        rw [if_neg hs]
                        simp -implicitDefEqProofs [Tl.d, encN, gMake, hi, ca]
end
end DL
namespace DL
open PySem PySem.Spec PyProof.Rows L2
noncomputable def tSigns : Tk WSp := fun a w => (sgsN w).map fun l => { a with signs := l }
noncomputable def tLeast : Tk WSp := fun a w => (wholeN 0 24 w).map fun n => { a with least := n }
noncomputable def tMost : Tk WSp := fun a w => (wholeN a.least 24 w).map fun n => { a with most := n }
noncomputable def opBlank : Op WSp := ⟨"blank", fun a => { a with signs := 32 :: a.signs }, []⟩
noncomputable def w0 : WSp := ⟨[], 0, 0, 0, 0, "", false⟩
noncomputable def wNs : List Str := ["width", "fill", "side", "strict", "signs", "least", "most"]
noncomputable def wDs (a : WSp) (t : Tl) : List D := [.int t.width, .str (sgn t.fill), .str t.side, .bl t.strict, .str (tx a.signs), .int a.least, .int a.most]
noncomputable def encW (a : WSp) : DEnv := [.fz (.str (tx a.signs)), .fz (.int a.least), .fz (.int a.most), .no, .no, .no, .no]
theorem sgsN_len {w : Str} {l : List Nat} (h : sgsN w = some l) (hw : w.length ≤ 600) : l.length ≤ 600 := by
  unfold sgsN setOf at h
  cases hf : (setsL.find? fun p => p.1 = w) with
  | some p =>
    rw [hf] at h
    simp only [Option.map_some, Option.some.injEq] at h
    have hm := List.mem_of_find?_eq_some hf
    have := (sets_ok p hm).1.len
    rw [← h]; omega
  | none =>
    rw [hf] at h
    simp only [Option.map_none] at h
    split at h
    · cases h
      have : w.length = w.cps.toList.length := by rw [Array.length_toList]; rfl
      rw [List.length_drop]; omega
    · cases h
theorem e_wordInit (a1 a2 a3 a4 a5 a6 a7 : D) : F_WordForm_init (.ob "WordForm" [] []) [a1, a2, a3, a4, a5, a6, a7] = .ok (.fz .non, .ob "WordForm" wNs [a4, a5, a6, a7, a1, a2, a3]) := by
  have h := e_formInit "WordForm" (by simp) a4 a5 a6 a7
  unfold F_WordForm_init
  simp -implicitDefEqProofs [gCallS, h, sSetF, putN, putX, wNs]
section
variable {W : List Str} {p q : Nat} {e : DEnv}
theorem go_blank {U : SM} {a : WSp} (hW : OkW W) (hp : p ≤ W.length) (ha : a.signs.length ≤ 600) : ∃ b q, runO W [opBlank] a p = .ok (b, q) ∧ q ≤ W.length ∧
    sSeq (sIf (bgn "blank") (sSet 1 (mMap Cell.fz (mOpt2 hAdd (gC (.str " ")) (gVar 1)))) sNil) U (rdC W p :: encW a) = U (rdC W q :: encW b) := by
  rw [ev_sSeq, t_begins hW hp, runO]
  by_cases hk : W[p]? = some opBlank.k
  · have hlt : p < W.length := (List.getElem?_eq_some_iff.mp hk).1
    refine ⟨{ a with signs := 32 :: a.signs }, p + 1, by rw [if_pos hk]; rfl, hlt, ?_⟩
    rw [if_pos (show W[p]? = some ("blank" : Str) from hk)]
    have e0 : (" " : Str) = tx [32] := rfl
    have ad : hAdd (.str " ") (.str (tx a.signs)) = some (.str (tx (32 :: a.signs))) := by
      rw [e0, ev_hAddS (by rw [tx_len, tx_len, sizeLine_eq]; simp; omega), tx_app]; rfl
    simp -implicitDefEqProofs [encW, ad, rdC]
  · refine ⟨a, p, by rw [if_neg hk]; rfl, hp, ?_⟩
    rw [if_neg (show ¬ W[p]? = some ("blank" : Str) from hk)]
    rfl
theorem e_tail_call (hW : OkW W) (hp : p ≤ W.length) (e : DEnv) (s0 : Str) : gCallS F_read_tail 0 (aCons (gC (.str s0)) (aCons (mOpt Cell.toD (fun env => .ok (.ow kl_SIDES, env))) aNil)) (rdC W p :: e) = match runO W (tailOps sides3) (tl0 s0) p with
    | .ok (t, q) => .ok (.fz t.d, rdC W q :: e)
    | .error q => .ex (NF q) := by
  have et := e_tail_run hW hp s0 sides3
  have cr := c_rd (W := W) (p := p) (e := e) (S := F_read_tail) (r := (aCons (gC (.str s0)) (aCons (mOpt Cell.toD (fun env => .ok (.ow kl_SIDES, env))) aNil))) (args := [.str s0, .lst (sides3.map D.str)]) rfl
  rw [cr, et]
  unfold tl0
  cases runO W (tailOps sides3) ⟨0, 32, s0, false⟩ p <;> rfl
theorem e_read_word (hW : OkW W) (hp : p ≤ W.length) : F_read_word_form (rdC W p) [] = match run W ([tSigns, tLeast, tMost].map tL) ([opBlank].map oL ++ (tailOps sides3).map oR) (w0, tl0 "left") p with
    | .error q => .ex (NF q)
    | .ok (wt, q) => if wt.2.strict = true ∧ wt.2.width < wt.1.least then .ex (NF ((q : Int) - 1)) else .ok (.ob "WordForm" wNs (wDs wt.1 wt.2), rdC W q) := by
  unfold run
  rw [runTs_L]
  unfold F_read_word_form
  rw [runsS0]
  show Res.bind (sSeq _ _ (rdC W p :: [.no, .no, .no, .no, .no, .no, .no])) outS = _
  rw [ev_sSeq, t_tok hW hp r_signs rfl, runTs]
  cases hw1 : W[p]? with
  | none => rfl
  | some w1 =>
    have hp1 : p + 1 ≤ W.length := (List.getElem?_eq_some_iff.mp hw1).1
    have hl1 := okw_at hW hw1
    simp -implicitDefEqProofs only
    rw [sgsT_eq]
    unfold tSigns
    cases hf : sgsN w1 with
    | none => rfl
    | some sg =>
      have hsl := sgsN_len hf hl1
      simp -implicitDefEqProofs only [Option.map_some]
      rw [show setC 1 (.fz (.str (tx sg))) (rdC W (p + 1) :: [.no, .no, .no, .no, .no, .no, .no]) = .ok (.nx (rdC W (p + 1) :: [.fz (.str (tx sg)), .no, .no, .no, .no, .no, .no])) from rfl]
      simp -implicitDefEqProofs only [Res.bind_ok, ev_sThen_nx]
      rw [ev_sSeq, t_tok hW hp1 (r_whole 0 24) rfl, runTs]
      cases hw2 : W[p + 1]? with
      | none => rfl
      | some w2 =>
        have hp2 : p + 1 + 1 ≤ W.length := (List.getElem?_eq_some_iff.mp hw2).1
        simp -implicitDefEqProofs only
        rw [wholeT_eq]
        unfold tLeast
        cases hg : wholeN 0 24 w2 with
        | none => rfl
        | some least =>
          simp -implicitDefEqProofs only [Option.map_some]
          rw [show setC 2 (.fz (.int least)) (rdC W (p + 1 + 1) :: [.fz (.str (tx sg)), .no, .no, .no, .no, .no, .no]) = .ok (.nx (rdC W (p + 1 + 1) :: [.fz (.str (tx sg)), .fz (.int least), .no, .no, .no, .no, .no])) from rfl]
          simp -implicitDefEqProofs only [Res.bind_ok, ev_sThen_nx]
          rw [ev_sSeq, t_tok hW hp2 (r_whole least 24) rfl, runTs]
          cases hw3 : W[p + 1 + 1]? with
          | none => rfl
          | some w3 =>
            have hp3 : p + 1 + 1 + 1 ≤ W.length := (List.getElem?_eq_some_iff.mp hw3).1
            simp -implicitDefEqProofs only
            rw [wholeT_eq]
            unfold tMost
            simp -implicitDefEqProofs only
            cases hh : wholeN least 24 w3 with
            | none => rfl
            | some most =>
              simp -implicitDefEqProofs only [Option.map_some, runTs]
              rw [show setC 3 (.fz (.int most)) (rdC W (p + 1 + 1 + 1) :: [.fz (.str (tx sg)), .fz (.int least), .no, .no, .no, .no, .no]) = .ok (.nx (rdC W (p + 1 + 1 + 1) :: encW { w0 with signs := sg, least := least, most := most })) from rfl]
              simp -implicitDefEqProofs only [Res.bind_ok, ev_sThen_nx]
              rw [show ({ w0 with signs := sg, least := least, most := most } : WSp) = { signs := sg, least := least, most := most, width := w0.width, fill := w0.fill, side := w0.side, strict := w0.strict } from rfl]
              have iv : (⟨sg, least, most, w0.width, w0.fill, w0.side, w0.strict⟩ : WSp).signs.length ≤ 600 := hsl
              generalize (⟨sg, least, most, w0.width, w0.fill, w0.side, w0.strict⟩ : WSp) = a at iv ⊢
              generalize p + 1 + 1 + 1 = p3 at hp3 ⊢
              have gb := fun U => go_blank (U := U) hW hp3 iv
              obtain ⟨b0, q0, hq0, _, _⟩ := gb sNil
              rw [runO_LR, hq0]
              obtain ⟨b1, q1, hq1, hle, hgo⟩ := gb _
              rw [hq0] at hq1; cases hq1
              rw [hgo]
              simp -implicitDefEqProofs only
              rw [ev_sSeq, ev_sAsg, ev_mOpt, e_tail_call hW hle]
              cases h6 : runO W (tailOps sides3) (tl0 "left") q0 with
              | error q => rfl
              | ok r =>
                obtain ⟨t, p8⟩ := r
                have hal := e_allow (W := W) (b := t.strict) (l := b0.least) (w := t.width) (q := p8)
                have hi := e_wordInit (.str (tx b0.signs)) (.int b0.least) (.int b0.most) (.int t.width) (.str (sgn t.fill)) (.str t.side) (.bl t.strict)
                have ca : gCallS F_allow_strict 0 (aCons (gVar 7) (aCons (gVar 2) (aCons (gVar 4) aNil))) [rdC W p8, .fz (.str (tx b0.signs)), .fz (.int b0.least), .fz (.int b0.most), .fz (.int t.width), .fz (.str (sgn t.fill)), .fz (.str t.side), .fz (.bl t.strict)]
                    = (F_allow_strict (rdC W p8) [.bl t.strict, .int b0.least, .int t.width]).map fun q => (q.1, q.2 :: [.fz (.str (tx b0.signs)), .fz (.int b0.least), .fz (.int b0.most), .fz (.int t.width), .fz (.str (sgn t.fill)), .fz (.str t.side), .fz (.bl t.strict)]) :=
                  c_rd (by simp -implicitDefEqProofs)
                rw [hal] at ca
                simp -implicitDefEqProofs only
                by_cases hs : t.strict = true ∧ t.width < b0.least
                · rw [if_pos hs] at ca
                  rw [if_pos hs]
                  simp -implicitDefEqProofs [Tl.d, encW, gMake, ca]
                · rw [if_neg hs] at ca
                  rw [if_neg hs]
                  simp -implicitDefEqProofs [Tl.d, encW, gMake, hi, ca, wDs]
end
end DL
namespace DL
open PySem PySem.Spec PyProof.Rows L2
noncomputable def tName : Tk CSp := fun a w => if 1 ≤ w.length ∧ w.length ≤ 12 ∧ w.cps.toList ∉ a.names then some { a with names := a.names ++ [w.cps.toList] } else none
noncomputable def c0 : CSp := ⟨[], 0, 0, "", false⟩
noncomputable def cNs : List Str := ["width", "fill", "side", "strict", "names"]
noncomputable def cDs (a : CSp) (t : Tl) : List D := [.int t.width, .str (sgn t.fill), .str t.side, .bl t.strict, .lst (nmsD a.names)]
noncomputable def runC (W : List Str) (p : Nat) : Except Nat ((CSp × Tl) × Nat) := match W[p]? with
  | some w => match wholeN 1 12 w with
    | some n => run W ((List.replicate n.toNat tName).map tL) ((tailOps sides3).map oR) (c0, tl0 "left") (p + 1)
    | none => .error p
  | none => .error p
theorem nms_eq (ls : List (List Nat)) : nmsD ls = (ls.map tx).map D.str := by unfold nmsD; rw [List.map_map]; rfl
theorem mem_tx {w : Str} {ls : List (List Nat)} : (w ∈ ls.map tx) ↔ w.cps.toList ∈ ls := by
  constructor
  · intro h
    obtain ⟨l, hl, rfl⟩ := List.mem_map.mp h
    rw [tx_list]; exact hl
  · intro h; exact List.mem_map.mpr ⟨_, h, tx_eta w⟩
theorem comp_map2 {i : Nat} {xs : List D} {f : M D} {r : M (List D)} {env0 env : DEnv} {c : Cell} (y : D → D) (hr : r env0 = .ok (xs, env)) (hc : env[i]? = some c) (hp : Pl c) (hl : xs.length ≤ sizeLine)
    (hf : ∀ x ∈ xs, f (env.set i (.fz x)) = .ok (y x, env.set i (.fz x))) : gComp r (gtName i) mYes f [i] env0 = .ok (.ow (xs.map y), env) := by
  have h := comp_map (r := fun e => .ok (xs, e)) (env := env) y rfl hc hp hl hf
  rw [ev_gComp] at h ⊢
  rw [hr]
  exact h
theorem e_choInit (a1 a2 a3 a4 : D) (ds : List D) : F_ChoiceForm_init (.ob "ChoiceForm" [] []) [.lst ds, a1, a2, a3, a4] = .ok (.fz .non, .ob "ChoiceForm" cNs [a1, a2, a3, a4, .lst ds]) := by
  have h := e_formInit "ChoiceForm" (by simp) a1 a2 a3 a4
  unfold F_ChoiceForm_init
  simp -implicitDefEqProofs [gCallS, h, sSetF, putN, putX, cNs, hList]
section
variable {W : List Str} {p q : Nat} {e : DEnv}
noncomputable abbrev choBody : SM := (sSeq (sSet 7 (gMethS "Reading" "taken" F_Reading_taken 0 aNil))
  (sSeq (sIf (mOr (mNot (gChain hLe hLe (gC (.int 1)) (mOpt hLen (aCons (gVar 7) aNil)) (gC (.int 12)))) (mInL false (gVar 7) (gLstN 1))) (sRaise1 "NoForm" "at" (mOpt2 hSub (gFldN 0 ["Reading"] "at") (gC (.int 1)))) sNil)
  (sDrop (gAppend 1 (gVar 7)))))
theorem for_names (hW : OkW W) : ∀ (xs : List D) (a : CSp) (p : Nat) (c2 c7 : Cell), Pl c2 → Pl c7 → p ≤ W.length → a.names.length + xs.length ≤ 100 →
    (∃ b q d2 d7, runTs W (List.replicate xs.length tName) a p = .ok (b, q) ∧ Pl d2 ∧ Pl d7 ∧ q ≤ W.length ∧ b.names.length ≤ 100 ∧ (0 < a.names.length + xs.length → 0 < b.names.length) ∧ (∀ l ∈ b.names, l ∈ a.names ∨ l.length ≤ 12) ∧
      forL (gtName 2) choBody xs [rdC W p, .ow (nmsD a.names), c2, .no, .no, .no, .no, c7] = .ok (.nx [rdC W q, .ow (nmsD b.names), d2, .no, .no, .no, .no, d7]))
    ∨ (∃ q, runTs W (List.replicate xs.length tName) a p = .error q ∧ forL (gtName 2) choBody xs [rdC W p, .ow (nmsD a.names), c2, .no, .no, .no, .no, c7] = .ex (NF q))
  | [], a, p, c2, c7, h2, h7, hp, hn => .inl ⟨a, p, c2, c7, rfl, h2, h7, hp, by simpa using hn, (fun z => by simpa using z), (fun l hl => .inl hl), rfl⟩
  | x :: xs, a, p, c2, c7, h2, h7, hp, hn => by
    have q1 : gtName 2 x [rdC W p, .ow (nmsD a.names), c2, .no, .no, .no, .no, c7] = .ok (.nx [rdC W p, .ow (nmsD a.names), .fz x, .no, .no, .no, .no, c7]) := by
      simp -implicitDefEqProofs [setC_pl h2, rdC]
    have q2 : sSet 7 (gMethS "Reading" "taken" F_Reading_taken 0 aNil) [rdC W p, .ow (nmsD a.names), .fz x, .no, .no, .no, .no, c7] = match W[p]? with
        | some w => .ok (.nx [rdC W (p + 1), .ow (nmsD a.names), .fz x, .no, .no, .no, .no, .fz (.str w)])
        | none => .ex (NF p) := by
      rw [t_taken hW hp]
      cases W[p]? with
      | none => rfl
      | some w => simp -implicitDefEqProofs [setC_pl h7, rdC]
    rw [forL, q1]
    simp -implicitDefEqProofs only [Res.bind_ok]
    rw [List.length_cons, List.replicate_succ, runTs]
    cases hw : W[p]? with
    | none =>
      refine .inr ⟨p, rfl, ?_⟩
      rw [hw] at q2
      show Res.bind (sSeq _ _ _) _ = _
      rw [ev_sSeq, q2]; rfl
    | some w =>
      have hp1 : p + 1 ≤ W.length := (List.getElem?_eq_some_iff.mp hw).1
      have hwl := okw_at hW hw
      have hl := hLenS (z := w) (by omega)
      have L3 : w.length = w.cps.toList.length := by rw [Array.length_toList]; rfl
      have hin : hInL (.str w) (nmsD a.names) = some (decide (w.cps.toList ∈ a.names)) := by
        rw [nms_eq, hInL_strs]
        congr 1
        exact decide_eq_decide.mpr mem_tx
      rw [hw] at q2
      simp -implicitDefEqProofs only
      have q3 : choBody [rdC W p, .ow (nmsD a.names), .fz x, .no, .no, .no, .no, c7] = if 1 ≤ w.length ∧ w.length ≤ 12 ∧ w.cps.toList ∉ a.names then .ok (.nx [rdC W (p + 1), .ow (nmsD (a.names ++ [w.cps.toList])), .fz x, .no, .no, .no, .no, .fz (.str w)]) else .ex (NF p) := by
        show sSeq _ _ _ = _
        rw [ev_sSeq, q2]
        simp -implicitDefEqProofs only [Res.bind_ok, ev_sThen_nx]
        have z1 : ((1 : Int) ≤ (w.length : Int)) = (1 ≤ w.length) := by apply propext; omega
        have z2 : ((w.length : Int) ≤ 12) = (w.length ≤ 12) := by apply propext; omega
        have hsz : (nmsD a.names).length < sizeLine := by rw [List.length_map, sizeLine_eq]; simp only [List.length_cons] at hn; omega
        have hap : nmsD a.names ++ [.str w] = nmsD (a.names ++ [w.cps.toList]) := by
          unfold nmsD
          rw [List.map_append, List.map_singleton, tx_eta]
        by_cases c1 : 1 ≤ w.length
        · by_cases c2 : w.length ≤ 12
          · by_cases c3 : w.cps.toList ∈ a.names
            · rw [if_neg (by intro z; exact z.2.2 c3)]
              simp -implicitDefEqProofs [hl, z1, z2, c1, c2, mInL, gLstN, cLst, hin, c3, NF]
            · rw [if_pos ⟨c1, c2, c3⟩, ← hap]
              generalize nmsD a.names = ds at hin hsz ⊢
              simp -implicitDefEqProofs [hl, z1, z2, c1, c2, mInL, gLstN, cLst, hin, c3, gAppend, hsz]
          · rw [if_neg (by intro z; exact c2 z.2.1)]
            simp -implicitDefEqProofs [hl, z1, z2, c1, c2, NF]
        · rw [if_neg (by intro z; exact c1 z.1)]
          simp -implicitDefEqProofs [hl, z1, c1, NF]
      rw [q3]
      unfold tName
      by_cases hc : 1 ≤ w.length ∧ w.length ≤ 12 ∧ w.cps.toList ∉ a.names
      · rw [if_pos hc, if_pos hc]
        simp -implicitDefEqProofs only [Res.bind_ok]
        have ih := for_names hW xs { a with names := a.names ++ [w.cps.toList] } (p + 1) (.fz x) (.fz (.str w)) (.inr ⟨_, rfl⟩) (.inr ⟨_, rfl⟩) hp1 (by simp only [List.length_append, List.length_cons, List.length_nil] at hn ⊢; omega)
        rcases ih with ⟨b, q, d2, d7, r1, r2, r3, r4, r5, r6, r7, r8⟩ | ⟨q, r1, r2⟩
        · refine .inl ⟨b, q, d2, d7, r1, r2, r3, r4, r5, fun _ => r6 (by simp only [List.length_append, List.length_cons, List.length_nil]; omega), fun l hl => ?_, r8⟩
          rcases r7 l hl with z | z
          · rcases List.mem_append.mp z with z | z
            · exact .inl z
            · rw [List.mem_singleton] at z
              right; rw [z, ← L3]; exact hc.2.1
          · exact .inr z
        · exact .inr ⟨q, r1, r2⟩
      · rw [if_neg hc, if_neg hc]
        exact .inr ⟨p, rfl, rfl⟩
theorem e_read_cho (hW : OkW W) (hp : p ≤ W.length) : F_read_choice_form (rdC W p) [] = match runC W p with
    | .error q => .ex (NF q)
    | .ok (ct, q) => if ct.2.strict = true ∧ ct.2.width < ct.1.short then .ex (NF ((q : Int) - 1)) else .ok (.ob "ChoiceForm" cNs (cDs ct.1 ct.2), rdC W q) := by
  unfold runC run
  unfold F_read_choice_form
  rw [runsS0]
  show Res.bind (sSeq _ _ (rdC W p :: [.no, .no, .no, .no, .no, .no, .no])) outS = _
  rw [ev_sSeq, show sSet 1 (mMap Cell.ow (mOpt okLen aNil)) (rdC W p :: [.no, .no, .no, .no, .no, .no, .no]) = .ok (.nx [rdC W p, .ow (nmsD c0.names), .no, .no, .no, .no, .no, .no]) from by simp -implicitDefEqProofs [rdC, c0]]
  simp -implicitDefEqProofs only [Res.bind_ok, ev_sThen_nx]
  rw [ev_sSeq, ev_sFor, ev_mOpt, ev_aCons, ev_mOpt, m_rd (args := [.int 1, .int 12]) rfl (by decide) (by decide), r_whole 1 12 W p hW hp]
  unfold tokR
  cases hw1 : W[p]? with
  | none => rfl
  | some w1 =>
    have hp1 : p + 1 ≤ W.length := (List.getElem?_eq_some_iff.mp hw1).1
    simp -implicitDefEqProofs only
    rw [wholeT_eq]
    cases hg : wholeN 1 12 w1 with
    | none => rfl
    | some n =>
      have rg := wholeN_rng hg
      obtain ⟨m, rfl⟩ := Int.eq_ofNat_of_zero_le (a := n) (by omega)
      have hr := hRng_ok (n := m) (by omega)
      simp -implicitDefEqProofs only [Option.map_some, Res.map_ok, Res.bind_ok, ev_toD_fz, optR_some, ev_aNil, hr, Int.toNat_natCast]
      rw [runTs_L]
      have fn := for_names hW (rngD 0 m) c0 (p + 1) .no .no (.inl rfl) (.inl rfl) hp1 (by rw [rngD_len]; simp [c0]; omega)
      rw [rngD_len] at fn
      rcases fn with ⟨b, q, d2, d7, r1, r2, r3, r4, r5, r6, r7, r8⟩ | ⟨q, r1, r2⟩
      · rw [r8, r1]
        simp -implicitDefEqProofs only [Res.bind_ok, ev_sThen_nx]
        have rr := runO_LR (W := W) (tailOps sides3) ([] : List (Op CSp)) b (tl0 "left") q
        rw [List.map_nil, List.nil_append, runO] at rr
        rw [rr]
        simp -implicitDefEqProofs only
        rw [ev_sSeq, ev_sAsg, ev_mOpt, e_tail_call hW r4]
        cases h6 : runO W (tailOps sides3) (tl0 "left") q with
        | error q => rfl
        | ok r =>
          obtain ⟨t, p8⟩ := r
          have hpos : 0 < b.names.length := r6 (by omega)
          have hal := e_allow (W := W) (b := t.strict) (l := b.short) (w := t.width) (q := p8)
          have hi := e_choInit (.int t.width) (.str (sgn t.fill)) (.str t.side) (.bl t.strict) (nmsD b.names)
          have hll : ∀ l ∈ b.names, l.length ≤ 12 := fun l hl => by
            rcases r7 l hl with z | z
            · simp [c0] at z
            · exact z
          let E : DEnv := [rdC W p8, .fz (.lst (nmsD b.names)), d2, .fz (.int t.width), .fz (.str (sgn t.fill)), .fz (.str t.side), .fz (.bl t.strict), d7]
          have cm := comp_map2 (i := 7) (xs := nmsD b.names) (f := mOpt hLen (aCons (gVar 7) aNil)) (r := mOpt hLst (gVar 1)) (env0 := [rdC W p8, .ow (nmsD b.names), d2, .fz (.int t.width), .fz (.str (sgn t.fill)), .fz (.str t.side), .fz (.bl t.strict), d7]) (env := E) (c := d7) lenD (by simp [E, hLst]) rfl r3 (by rw [List.length_map, sizeLine_eq]; omega) (by
            intro x hx
            obtain ⟨l, hl, rfl⟩ := List.mem_map.mp hx
            have := hll l hl
            have e := hLenS (z := tx l) (by rw [tx_len]; omega)
            simp -implicitDefEqProofs [e, lenD, E])
          have hm : hMin [.lst ((nmsD b.names).map lenD)] = some (.int b.short) := by
            show (hInts _).bind _ = _
            rw [map_lenD, hInts_ints]
            show (leastI _).map _ = _
            rw [leastI_nat _ (by intro z; simp at z; rw [z] at hpos; simp at hpos)]; rfl
          have ca : gCallS F_allow_strict 0 (aCons (gVar 6) (aCons (mOpt hMin (aCons (mOpt Cell.toD (gComp (mOpt hLst (gVar 1)) (gtName 7) mYes (mOpt hLen (aCons (gVar 7) aNil)) [7])) aNil)) (aCons (gVar 3) aNil))) [rdC W p8, .ow (nmsD b.names), d2, .fz (.int t.width), .fz (.str (sgn t.fill)), .fz (.str t.side), .fz (.bl t.strict), d7]
              = (F_allow_strict (rdC W p8) [.bl t.strict, .int b.short, .int t.width]).map fun q => (q.1, q.2 :: [.fz (.lst (nmsD b.names)), d2, .fz (.int t.width), .fz (.str (sgn t.fill)), .fz (.str t.side), .fz (.bl t.strict), d7]) := by
            have ar : (aCons (gVar 6) (aCons (mOpt hMin (aCons (mOpt Cell.toD (gComp (mOpt hLst (gVar 1)) (gtName 7) mYes (mOpt hLen (aCons (gVar 7) aNil)) [7])) aNil)) (aCons (gVar 3) aNil))) [rdC W p8, .ow (nmsD b.names), d2, .fz (.int t.width), .fz (.str (sgn t.fill)), .fz (.str t.side), .fz (.bl t.strict), d7] = .ok ([.bl t.strict, .int b.short, .int t.width], E) := by
              have g6 : gVar 6 [rdC W p8, .ow (nmsD b.names), d2, .fz (.int t.width), .fz (.str (sgn t.fill)), .fz (.str t.side), .fz (.bl t.strict), d7] = .ok (.bl t.strict, [rdC W p8, .ow (nmsD b.names), d2, .fz (.int t.width), .fz (.str (sgn t.fill)), .fz (.str t.side), .fz (.bl t.strict), d7]) := rfl
              have g3 : gVar 3 E = .ok (.int t.width, E) := rfl
              rw [ev_aCons, g6]
              simp -implicitDefEqProofs only [Res.bind_ok]
              rw [ev_aCons, ev_mOpt, ev_aCons, ev_mOpt, cm]
              generalize (nmsD b.names).map lenD = X at hm ⊢
              simp -implicitDefEqProofs only [Res.bind_ok, Res.map_ok, ev_toD_ow, optR_some, ev_aNil, hm]
              rw [ev_aCons, g3]
              simp -implicitDefEqProofs
            show (aCons (gVar 6) _ _).bind _ = _
            rw [ar]; rfl
          rw [hal] at ca
          simp -implicitDefEqProofs only
          generalize hX : nmsD b.names = X at ca hi
          have hc : cDs b t = [.int t.width, .str (sgn t.fill), .str t.side, .bl t.strict, .lst X] := by rw [← hX]; rfl
          rw [hc]
          by_cases hs : t.strict = true ∧ t.width < b.short
          · rw [if_pos hs] at ca
            rw [if_pos hs]
            simp -implicitDefEqProofs [Tl.d, ca, hX]
          · rw [if_neg hs] at ca
            rw [if_neg hs]
            simp -implicitDefEqProofs [Tl.d, gMake, hi, ca, hX]
      · rw [r2, r1]; rfl
end
end DL
namespace DL
open PySem PySem.Spec PyProof.Rows L2
noncomputable def keysOf (kd : Str) : List Str := (if kd = "choice" then ([] : List Str) else if kd = "word" then (["blank"] : List Str) else (["base", "sign", "groups", "point", "way"] : List Str)) ++ (["width", "fill", "side", "strict"] : List Str)
noncomputable def idx (ks : List Str) (w : Str) : Nat := match ks with
  | [] => 0
  | k :: r => if k = w then 0 else idx r w + 1
noncomputable def toldN (ks : List Str) : List Row → Nat
  | [] => 0
  | r :: rs => max (if r.role = "key" then idx ks r.w + 1 else 0) (toldN ks rs)
noncomputable def listOf (kd role : Str) : List Str := if role = "style" then stylesL else if role = "way" then waysL else if kd = "number" then sides4 else sides3
/-- whether a word may stand in a row's place, the rows ahead being told -/
noncomputable def mayR (kd : Str) (pre : List Row) (r : Row) (w : Str) : Bool :=
  if r.role = "kind" then decide (w ∈ (["number", "word", "choice"] : List Str))
  else if r.role = "number" then (wholeN r.lo r.hi w).isSome
  else if r.role = "sign" then (sgnN w).isSome
  else if r.role = "signs" then (sgsN w).isSome
  else if r.role = "name" then decide (1 ≤ w.length) && decide (w.length ≤ 12) && decide (w ∉ (pre.drop 2).map Row.w)
  else if r.role = "key" then decide (w ∈ (keysOf kd).drop (toldN (keysOf kd) pre))
  else decide (w ∈ listOf kd r.role)
theorem toldN_app (ks : List Str) (r : Row) : ∀ pre : List Row, toldN ks (pre ++ [r]) = max (toldN ks pre) (if r.role = "key" then idx ks r.w + 1 else 0)
  | [] => by simp [toldN]
  | x :: pre => by
    rw [List.cons_append, toldN, toldN, toldN_app ks r pre, Nat.max_assoc]
section
variable {α : Type}
inductive Lk (kd : Str) (Q Z : α → Prop) : List Row → List Row → List (Tk α) → List (Op α) → α → Prop
  | nil {pre os a} (hq : Q a) (hz : Z a) (hm : ∀ w, w ∈ os.map Op.k → mayR kd pre (key "") w = true) : Lk kd Q Z pre [] [] os a
  | tok {pre r rest t ts os a b} (hq : Q a) (ht : t a r.w = some b) (hm : ∀ w c, t a w = some c → mayR kd pre r w = true) (h : Lk kd Q Z (pre ++ [r]) rest ts os b) : Lk kd Q Z pre (r :: rest) (t :: ts) os a
  | key {pre r rest o os sk os' a} (hq : Q a) (hs : os = sk ++ o :: os') (hn : ∀ x ∈ sk, x.k ≠ r.w) (hk : r.w = o.k) (hm : ∀ w, w ∈ os.map Op.k → mayR kd pre r w = true) (h : Lk kd Q Z (pre ++ [r]) rest o.ts os' (o.f a)) : Lk kd Q Z pre (r :: rest) [] os a
theorem stepO_app {o : Op α} {w : Str} {os' : List (Op α)} {a : α} (hk : w = o.k) : ∀ {sk : List (Op α)}, (∀ x ∈ sk, x.k ≠ w) → stepO (sk ++ o :: os') a w = some (o.ts, os', o.f a)
  | [], _ => by rw [List.nil_append, stepO, if_pos hk]
  | x :: sk, h => by
    rw [List.cons_append, stepO, if_neg (fun z => h x (List.mem_cons_self ..) z.symm)]
    exact stepO_app hk fun y hy => h y (List.mem_cons_of_mem _ hy)
theorem stepO_mem {w : Str} {a : α} : ∀ {os : List (Op α)} {s}, stepO os a w = some s → w ∈ os.map Op.k
  | [], _, h => by cases h
  | o :: os, s, h => by
    rw [stepO] at h
    split at h
    · rename_i hw; simp [hw]
    · exact List.mem_cons_of_mem _ (stepO_mem h)
theorem Lk.steps {kd : Str} {Q Z : α → Prop} : ∀ {i : Nat} {pre rest ts os} {a : α}, Lk kd Q Z pre rest ts os a → i ≤ rest.length → ∃ ts' os' a', steps (ts, os, a) ((rest.take i).map Row.w) = some (ts', os', a') ∧ Lk kd Q Z (pre ++ rest.take i) (rest.drop i) ts' os' a'
  | 0, pre, rest, ts, os, a, h, _ => ⟨ts, os, a, rfl, by simpa using h⟩
  | i + 1, pre, rest, ts, os, a, h, hi => by
    cases h with
    | nil => simp at hi
    | @tok pre r rest t ts os a b hq ht hm h' =>
      obtain ⟨ts', os', a', e1, e2⟩ := Lk.steps (i := i) h' (by simpa using hi)
      refine ⟨ts', os', a', ?_, ?_⟩
      · rw [List.take_succ_cons, List.map_cons, DL.steps]
        have : step (t :: ts, os, a) r.w = some (ts, os, b) := by
          show (t a r.w).map _ = _
          rw [ht]; rfl
        rw [this]; exact e1
      · rw [List.take_succ_cons, List.drop_succ_cons]
        simpa using e2
    | @key pre r rest o os sk os2 a hq hs hn hk hm h' =>
      obtain ⟨ts', os', a', e1, e2⟩ := Lk.steps (i := i) h' (by simpa using hi)
      refine ⟨ts', os', a', ?_, ?_⟩
      · rw [List.take_succ_cons, List.map_cons, DL.steps]
        have : step (([] : List (Tk α)), os, a) r.w = some (o.ts, os2, o.f a) := by
          show stepO os a r.w = _
          rw [hs]; exact stepO_app hk hn
        rw [this]; exact e1
      · rw [List.take_succ_cons, List.drop_succ_cons]
        simpa using e2
theorem Lk.q {kd : Str} {Q Z : α → Prop} {pre rest ts os} {a : α} (h : Lk kd Q Z pre rest ts os a) : Q a := by
  cases h <;> assumption
/-- the row in a place, the end among them -/
noncomputable def rowAt (rest : List Row) : Row := rest.headD (key "")
theorem Lk.may {kd : Str} {Q Z : α → Prop} {pre rest ts os} {a : α} {w : Str} {s} (h : Lk kd Q Z pre rest ts os a) (hs : step (ts, os, a) w = some s) : mayR kd pre (rowAt rest) w = true := by
  cases h with
  | nil hq hz hm => exact hm w (stepO_mem hs)
  | @tok pre r rest t ts os a b hq ht hm h' =>
    have hs : (t a w).map _ = some s := hs
    cases hc : t a w with
    | none => rw [hc] at hs; cases hs
    | some c => exact hm w c hc
  | key hq he hn hk hm h' => exact hm w (stepO_mem hs)
noncomputable def PJ (kd : Str) (Q Z : α → Prop) (ops : List (Op α)) (j : Nat) (rest : List Row) (a : α) : Prop := ∀ m pre, m ≤ j → toldN (keysOf kd) pre = m → Lk kd Q Z pre rest [] (ops.drop m) a
theorem PJ.nil {kd : Str} {Q Z : α → Prop} {ops : List (Op α)} {j : Nat} {a : α} (hk : ops.map Op.k = keysOf kd) (hq : Q a) (hz : Z a) : PJ kd Q Z ops j [] a := fun m pre _ hm => .nil hq hz fun w hw => by
  unfold mayR key
  rw [if_neg (by simp), if_neg (by simp), if_neg (by simp), if_neg (by simp), if_neg (by simp), if_pos rfl, hm, ← hk, ← List.map_drop]
  exact decide_eq_true hw
/-- tokens of a clause: their rows are told -/
inductive TL3 (kd : Str) (Q : α → Prop) : List Row → List (Tk α) → α → α → Prop
  | nil {a} : TL3 kd Q [] [] a a
  | cons {r rs t ts a b c} (hq : Q a) (ht : t a r.w = some b) (hr : r.role ≠ ("key" : Str)) (hm : ∀ pre w c, t a w = some c → mayR kd pre r w = true) (h : TL3 kd Q rs ts b c) : TL3 kd Q (r :: rs) (t :: ts) a c
theorem TL3.lk {kd : Str} {Q Z : α → Prop} {rest : List Row} {os : List (Op α)} : ∀ {rs ts} {a c : α}, TL3 kd Q rs ts a c → ∀ {pre}, (∀ pre', toldN (keysOf kd) pre' = toldN (keysOf kd) pre → Lk kd Q Z pre' rest [] os c) → Lk kd Q Z pre (rs ++ rest) ts os a
  | _, _, _, _, .nil, pre, h => h pre rfl
  | _, _, _, _, .cons hq ht hr hm h', pre, h => by
    refine .tok hq ht (hm pre) (h'.lk fun pre' hp => h pre' ?_)
    rw [hp, toldN_app, if_neg hr, Nat.max_zero]
theorem idx_at : ∀ (ks : List Str) (j : Nat) (k : Str), ks.Nodup → ks[j]? = some k → idx ks k = j
  | [], j, k, _, h => by simp at h
  | x :: ks, 0, k, _, h => by simp at h; rw [idx, if_pos h]
  | x :: ks, j + 1, k, hn, h => by
    have hn' := List.nodup_cons.mp hn
    have hk : ks[j]? = some k := by simpa using h
    rw [idx, if_neg (fun z => hn'.1 (by rw [z]; exact List.mem_of_getElem? hk)), idx_at ks j k hn'.2 hk]
theorem PJ.clause {kd : Str} {Q Z : α → Prop} {ops : List (Op α)} {j : Nat} {o : Op α} {c : Prop} [Decidable c] {args rest : List Row} {a a' : α} (hk : ops.map Op.k = keysOf kd) (hnd : (keysOf kd).Nodup) (ho : ops[j]? = some o) (hq : Q a)
    (h1 : c → TL3 kd Q args o.ts (o.f a) a') (h0 : ¬ c → a' = a) (h : PJ kd Q Z ops (j + 1) rest a') : PJ kd Q Z ops j (oi c (key o.k :: args) ++ rest) a := by
  intro m pre hm ht
  unfold oi
  by_cases hc : c
  · rw [if_pos hc]
    have hjl : j < ops.length := (List.getElem?_eq_some_iff.mp ho).1
    have hkj : (keysOf kd)[j]? = some o.k := by rw [← hk, List.getElem?_map, ho]; rfl
    have ix := idx_at _ j o.k hnd hkj
    refine .key (sk := (ops.drop m).take (j - m)) (os' := ops.drop (j + 1)) (o := o) hq ?_ ?_ rfl ?_ ?_
    · have e1 : (ops.drop m).drop (j - m) = o :: ops.drop (j + 1) := by
        rw [List.drop_drop, show m + (j - m) = j by omega, List.drop_eq_getElem_cons hjl]
        congr 1
        have := List.getElem?_eq_getElem hjl
        rw [ho] at this; cases this; rfl
      rw [← e1, List.take_append_drop]
    · intro x hx hxk
      have hx' : x ∈ ops.take j := by
        have : (ops.drop m).take (j - m) = (ops.take j).drop m := by rw [List.drop_take]
        rw [this] at hx
        exact List.mem_of_mem_drop hx
      obtain ⟨i, hi, ei⟩ := List.getElem_of_mem hx'
      rw [List.length_take] at hi
      rw [List.getElem_take] at ei
      have hki : (keysOf kd)[i]? = some x.k := by rw [← hk, List.getElem?_map, List.getElem?_eq_getElem (by omega), ei]; rfl
      have ix2 := idx_at _ i x.k hnd hki
      rw [hxk] at ix2
      have : idx (keysOf kd) o.k = i := ix2
      omega
    · intro w hw
      unfold mayR key
      rw [if_neg (by simp), if_neg (by simp), if_neg (by simp), if_neg (by simp), if_neg (by simp), if_pos rfl, ht, ← hk, ← List.map_drop]
      exact decide_eq_true hw
    · refine (h1 hc).lk fun pre' hp => h (j + 1) pre' (Nat.le_refl _) ?_
      rw [hp, toldN_app, ht]
      show max m (if ("key" : Str) = "key" then idx (keysOf kd) o.k + 1 else 0) = _
      rw [if_pos rfl, ix]; omega
  · rw [if_neg hc, List.nil_append]
    rw [h0 hc] at h
    exact h m pre (by omega) ht
end
end DL
namespace DL
open PySem PySem.Spec PyProof.Rows L2
theorem nw_ok : ∀ n ∈ List.range 41, isFig (nw (n : Nat)) = true ∧ PySem.intText? (nw (n : Nat)) = some (n : Int) := by decide +kernel
theorem wholeN_nw {n lo hi : Int} (h0 : 0 ≤ n) (h1 : n ≤ 40) (hl : lo ≤ n) (hh : n ≤ hi) : wholeN lo hi (nw n) = some n := by
  obtain ⟨m, rfl⟩ := Int.eq_ofNat_of_zero_le h0
  obtain ⟨a, b⟩ := nw_ok m (by rw [List.mem_range]; omega)
  unfold wholeN
  rw [if_pos a, b]
  simp [hl, hh]
theorem sgnN_sw (c : Nat) : sgnN (sw c) = some c := by
  unfold sw sgnN
  by_cases h : c = 32
  · subst h; rfl
  · rw [if_neg h]
    have : sgn c ≠ "blank" := fun z => by have := congrArg Str.length z; cases this
    rw [if_neg this]; rfl
section
variable {β : Type}
theorem may_num {kd : Str} {pre : List Row} {r : Row} {w : Str} (hr : r.role = "number") (h : (wholeN r.lo r.hi w).isSome) : mayR kd pre r w = true := by
  unfold mayR
  rw [hr, if_neg (by simp), if_pos rfl]; exact h
theorem may_sign {kd : Str} {pre : List Row} {r : Row} {w : Str} (hr : r.role = "sign") (h : (sgnN w).isSome) : mayR kd pre r w = true := by
  unfold mayR
  rw [hr, if_neg (by simp), if_neg (by simp), if_pos rfl]; exact h
theorem may_signs {kd : Str} {pre : List Row} {r : Row} {w : Str} (hr : r.role = "signs") (h : (sgsN w).isSome) : mayR kd pre r w = true := by
  unfold mayR
  rw [hr, if_neg (by simp), if_neg (by simp), if_neg (by simp), if_pos rfl]; exact h
theorem may_list {kd : Str} {pre : List Row} {r : Row} {w : Str} (hr : r.role = "style" ∨ r.role = "way" ∨ r.role = "side") (h : w ∈ listOf kd r.role) : mayR kd pre r w = true := by
  have : ∀ x : Str, x ≠ "style" → x ≠ "way" → x ≠ "side" → r.role ≠ x := fun x a b c z => by
    rw [z] at hr; rcases hr with h | h | h
    · exact a h
    · exact b h
    · exact c h
  unfold mayR
  rw [if_neg (this _ (by simp) (by simp) (by simp)), if_neg (this _ (by simp) (by simp) (by simp)), if_neg (this _ (by simp) (by simp) (by simp)), if_neg (this _ (by simp) (by simp) (by simp)), if_neg (this _ (by simp) (by simp) (by simp)), if_neg (this _ (by simp) (by simp) (by simp))]
  exact decide_eq_true h
theorem map_isSome {γ δ : Type} {f : γ → δ} {o : Option γ} {c : δ} (h : o.map f = some c) : o.isSome = true := by cases o <;> simp_all
theorem tail_PJ {kd : Str} {Q Z : β × Tl → Prop} {ops : List (Op (β × Tl))} {j : Nat} {sides : List Str} {kept : Str} (hk : ops.map Op.k = keysOf kd) (hnd : (keysOf kd).Nodup) (ho : ∀ i o, (tailOps sides)[i]? = some o → ops[j + i]? = some (oR o)) (hsd : listOf kd "side" = sides)
    (x : β) (width : Int) (fill : Nat) (side : Str) (strict : Bool) (b : Int) (hw : 0 ≤ width ∧ width ≤ 40) (hs : side ∈ sides) (hQ0 : ∀ t : Tl, t.strict = false → Q (x, t)) (hQ : Q (x, ⟨width, fill, side, strict⟩)) (hZ : Z (x, ⟨width, fill, side, strict⟩)) :
    PJ kd Q Z ops j (tailR kept width fill side strict b) (x, tl0 kept) := by
  unfold tailR
  rw [List.append_assoc, List.append_assoc]
  refine PJ.clause (o := oR opW) (a' := (x, { tl0 kept with width := width })) hk hnd (ho 0 opW rfl) (hQ0 _ rfl) (fun hc => ?_) (fun hc => ?_) ?_
  · refine .cons (hQ0 _ rfl) (b := (x, { tl0 kept with width := width })) ?_ (by simp) (fun pre w c h => may_num rfl ?_) .nil
    · show ((wholeN 1 40 (nw width)).map _).map _ = _
      rw [wholeN_nw hw.1 hw.2 (by omega) hw.2]; rfl
    · have h : ((wholeN 1 40 w).map _).map _ = some c := h
      exact map_isSome (by rw [Option.map_map] at h; exact h)
  · show (x, _) = (x, tl0 kept)
    have : width = 0 := by omega
    rw [this]; rfl
  refine PJ.clause (o := oR opF) (a' := (x, { tl0 kept with width := width, fill := fill })) hk hnd (ho 1 opF rfl) (hQ0 _ rfl) (fun hc => ?_) (fun hc => ?_) ?_
  · refine .cons (hQ0 _ rfl) (b := (x, { tl0 kept with width := width, fill := fill })) ?_ (by simp) (fun pre w c h => may_sign rfl ?_) .nil
    · show ((sgnN (sw fill)).map _).map _ = _
      rw [sgnN_sw]; rfl
    · have h : ((sgnN w).map _).map _ = some c := h
      exact map_isSome (by rw [Option.map_map] at h; exact h)
  · have : fill = 32 := by
      cases hd : decide (fill = 32) with
      | true => exact of_decide_eq_true hd
      | false => exact (hc (.inl (of_decide_eq_false hd))).elim
    rw [this]; rfl
  refine PJ.clause (o := oR (opS sides)) (a' := (x, { tl0 kept with width := width, fill := fill, side := side })) hk hnd (ho 2 (opS sides) rfl) (hQ0 _ rfl) (fun hc => ?_) (fun hc => ?_) ?_
  · refine .cons (hQ0 _ rfl) (b := (x, { tl0 kept with width := width, fill := fill, side := side })) ?_ (by simp) (fun pre w c h => may_list (.inr (.inr rfl)) ?_) .nil
    · show (if side ∈ sides then _ else _ : Option Tl).map _ = _
      rw [if_pos hs]; rfl
    · have h : (if w ∈ sides then _ else _ : Option Tl).map _ = some c := h
      show w ∈ listOf kd "side"
      rw [hsd]
      by_cases z : w ∈ sides
      · exact z
      · rw [if_neg z] at h; cases h
  · have : side = kept := by
      cases hd : decide (side = kept) with
      | true => exact of_decide_eq_true hd
      | false => exact (hc (.inl (of_decide_eq_false hd))).elim
    rw [this]; rfl
  rw [← List.append_nil (oi (strict = true) [key "strict"])]
  refine PJ.clause (o := oR opK) (a' := (x, ⟨width, fill, side, strict⟩)) hk hnd (ho 3 opK rfl) (hQ0 _ rfl) (fun hc => ?_) (fun hc => ?_) (PJ.nil hk hQ hZ)
  · rw [hc]; exact .nil
  · have : strict = false := by simpa using hc
    rw [this]; rfl
end
noncomputable def allN : List (Op (NSp × Tl)) := numOps.map oL ++ (tailOps sides4).map oR
noncomputable def QN (a : NSp × Tl) : Prop := a.2.strict = true → a.1.short ≤ a.2.width
noncomputable def nf (s : NSp) : NSp := ⟨s.fig, s.plc, s.base, s.sign, s.size, if 0 < s.size then s.mark else 44, s.point, s.way, 0, 0, "", false⟩
theorem keysN : allN.map Op.k = keysOf "number" := by simp [allN, numOps, tailOps, oL, oR, opBase, opSign, opGroups, opPoint, opWay, opW, opF, opS, opK, keysOf]
theorem keysN_nd : (keysOf "number").Nodup := by simp [keysOf]
noncomputable def restN (s : NSp) (b : Int) : List Row := ⟨nw s.fig, "number", 1, 12⟩ :: ⟨nw s.plc, "number", 0, 6⟩ :: (oi (s.base ≠ 10 ∨ b % 2 = 1) [key "base", ⟨nw s.base, "number", 2, 16⟩]
  ++ (oi (s.sign ≠ "minus" ∨ b / 2 % 2 = 1) [key "sign", ⟨s.sign, "style", 0, 0⟩] ++ (oi (0 < s.size) [key "groups", ⟨nw s.size, "number", 1, 9⟩, ⟨sw s.mark, "sign", 0, 0⟩]
  ++ (oi (s.point ≠ 46 ∨ b / 4 % 2 = 1) [key "point", ⟨sw s.point, "sign", 0, 0⟩] ++ (oi (s.way ≠ "near" ∨ b / 8 % 2 = 1) [key "way", ⟨s.way, "way", 0, 0⟩] ++ tailR "right" s.width s.fill s.side s.strict b)))))
theorem rowsN_eq (s : NSp) (b : Int) : (Spec.num s).rows b = ⟨"number", "kind", 0, 0⟩ :: restN s b := by
  simp [Spec.rows, headN, restN, List.append_assoc]
theorem not_or_left {p q : Prop} [Decidable p] (h : ¬ (¬ p ∨ q)) : p := by
  cases hd : decide p with
  | true => exact of_decide_eq_true hd
  | false => exact (h (.inl (of_decide_eq_false hd))).elim
theorem lk_num (s : NSp) (h : s.Ok) (hst : s.strict = true → s.short ≤ s.width) (b : Int) : Lk "number" QN (fun _ => True) [⟨"number", "kind", 0, 0⟩] (restN s b) ([tFig, tPlc].map tL) allN (n0, tl0 "right") := by
  have q0 : ∀ (x : NSp) (t : Tl), t.strict = false → QN (x, t) := fun x t ht z => by
    have z : t.strict = true := z
    rw [ht] at z; cases z
  have hk := keysN
  have hnd := keysN_nd
  refine .tok (b := ({ n0 with fig := s.fig }, tl0 "right")) (q0 _ _ rfl) ?_ (fun w c hc => may_num rfl ?_) ?_
  · show ((wholeN 1 12 (nw s.fig)).map _).map _ = _
    rw [wholeN_nw (by have := h.fig; omega) (by have := h.fig; omega) h.fig.1 h.fig.2]; rfl
  · have hc : ((wholeN 1 12 w).map _).map _ = some c := hc
    exact map_isSome (by rw [Option.map_map] at hc; exact hc)
  refine .tok (b := ({ n0 with fig := s.fig, plc := s.plc }, tl0 "right")) (q0 _ _ rfl) ?_ (fun w c hc => may_num rfl ?_) ?_
  · show ((wholeN 0 6 (nw s.plc)).map _).map _ = _
    rw [wholeN_nw (by have := h.plc; omega) (by have := h.plc; omega) h.plc.1 h.plc.2]; rfl
  · have hc : ((wholeN 0 6 w).map _).map _ = some c := hc
    exact map_isSome (by rw [Option.map_map] at hc; exact hc)
  have pj : PJ "number" QN (fun _ => True) allN 0 (oi (s.base ≠ 10 ∨ b % 2 = 1) [key "base", ⟨nw s.base, "number", 2, 16⟩]
    ++ (oi (s.sign ≠ "minus" ∨ b / 2 % 2 = 1) [key "sign", ⟨s.sign, "style", 0, 0⟩] ++ (oi (0 < s.size) [key "groups", ⟨nw s.size, "number", 1, 9⟩, ⟨sw s.mark, "sign", 0, 0⟩]
    ++ (oi (s.point ≠ 46 ∨ b / 4 % 2 = 1) [key "point", ⟨sw s.point, "sign", 0, 0⟩] ++ (oi (s.way ≠ "near" ∨ b / 8 % 2 = 1) [key "way", ⟨s.way, "way", 0, 0⟩] ++ tailR "right" s.width s.fill s.side s.strict b))))) ({ n0 with fig := s.fig, plc := s.plc }, tl0 "right") := by
    refine PJ.clause (o := oL opBase) (a' := ({ n0 with fig := s.fig, plc := s.plc, base := s.base }, tl0 "right")) hk hnd rfl (q0 _ _ rfl) (fun hc => ?_) (fun hc => ?_) ?_
    · refine .cons (q0 _ _ rfl) (b := ({ n0 with fig := s.fig, plc := s.plc, base := s.base }, tl0 "right")) ?_ (by simp) (fun pre w c hc => may_num rfl ?_) .nil
      · show ((wholeN 2 16 (nw s.base)).map _).map _ = _
        rw [wholeN_nw (by have := h.base; omega) (by have := h.base; omega) h.base.1 h.base.2]; rfl
      · have hc : ((wholeN 2 16 w).map _).map _ = some c := hc
        exact map_isSome (by rw [Option.map_map] at hc; exact hc)
    · rw [not_or_left hc]; rfl
    refine PJ.clause (o := oL opSign) (a' := ({ n0 with fig := s.fig, plc := s.plc, base := s.base, sign := s.sign }, tl0 "right")) hk hnd rfl (q0 _ _ rfl) (fun hc => ?_) (fun hc => ?_) ?_
    · refine .cons (q0 _ _ rfl) (b := ({ n0 with fig := s.fig, plc := s.plc, base := s.base, sign := s.sign }, tl0 "right")) ?_ (by simp) (fun pre w c hc => may_list (.inl rfl) ?_) .nil
      · show (if s.sign ∈ stylesL then _ else _ : Option NSp).map _ = _
        rw [if_pos h.sign]; rfl
      · have hc : (if w ∈ stylesL then _ else _ : Option NSp).map _ = some c := hc
        show w ∈ listOf "number" "style"
        have : listOf "number" "style" = stylesL := by simp [listOf]
        rw [this]
        by_cases z : w ∈ stylesL
        · exact z
        · rw [if_neg z] at hc; cases hc
    · rw [not_or_left hc]; rfl
    refine PJ.clause (o := oL opGroups) (a' := ({ n0 with fig := s.fig, plc := s.plc, base := s.base, sign := s.sign, size := s.size, mark := if 0 < s.size then s.mark else 44 }, tl0 "right")) hk hnd rfl (q0 _ _ rfl) (fun hc => ?_) (fun hc => ?_) ?_
    · refine .cons (q0 _ _ rfl) (b := ({ n0 with fig := s.fig, plc := s.plc, base := s.base, sign := s.sign, size := s.size }, tl0 "right")) ?_ (by simp) (fun pre w c hc => may_num rfl ?_) (.cons (q0 _ _ rfl) (b := ({ n0 with fig := s.fig, plc := s.plc, base := s.base, sign := s.sign, size := s.size, mark := if 0 < s.size then s.mark else 44 }, tl0 "right")) ?_ (by simp) (fun pre w c hc => may_sign rfl ?_) .nil)
      · show ((wholeN 1 9 (nw s.size)).map _).map _ = _
        rw [wholeN_nw (by have := h.size; omega) (by have := h.size; omega) (by omega) h.size.2]; rfl
      · have hc : ((wholeN 1 9 w).map _).map _ = some c := hc
        exact map_isSome (by rw [Option.map_map] at hc; exact hc)
      · rw [if_pos hc]
        show ((sgnN (sw s.mark)).map _).map _ = _
        rw [sgnN_sw]; rfl
      · have hc : ((sgnN w).map _).map _ = some c := hc
        exact map_isSome (by rw [Option.map_map] at hc; exact hc)
    · have : s.size = 0 := by have := h.size; omega
      rw [this]; rfl
    refine PJ.clause (o := oL opPoint) (a' := ({ n0 with fig := s.fig, plc := s.plc, base := s.base, sign := s.sign, size := s.size, mark := if 0 < s.size then s.mark else 44, point := s.point }, tl0 "right")) hk hnd rfl (q0 _ _ rfl) (fun hc => ?_) (fun hc => ?_) ?_
    · refine .cons (q0 _ _ rfl) (b := ({ n0 with fig := s.fig, plc := s.plc, base := s.base, sign := s.sign, size := s.size, mark := if 0 < s.size then s.mark else 44, point := s.point }, tl0 "right")) ?_ (by simp) (fun pre w c hc => may_sign rfl ?_) .nil
      · show ((sgnN (sw s.point)).map _).map _ = _
        rw [sgnN_sw]; rfl
      · have hc : ((sgnN w).map _).map _ = some c := hc
        exact map_isSome (by rw [Option.map_map] at hc; exact hc)
    · rw [not_or_left hc]; rfl
    refine PJ.clause (o := oL opWay) (a' := (nf s, tl0 "right")) hk hnd rfl (q0 _ _ rfl) (fun hc => ?_) (fun hc => ?_) ?_
    · refine .cons (q0 _ _ rfl) (b := (nf s, tl0 "right")) ?_ (by simp) (fun pre w c hc => may_list (.inr (.inl rfl)) ?_) .nil
      · show (if s.way ∈ waysL then _ else _ : Option NSp).map _ = _
        rw [if_pos h.way]; rfl
      · have hc : (if w ∈ waysL then _ else _ : Option NSp).map _ = some c := hc
        show w ∈ listOf "number" "way"
        have : listOf "number" "way" = waysL := by simp [listOf]
        rw [this]
        by_cases z : w ∈ waysL
        · exact z
        · rw [if_neg z] at hc; cases hc
    · show (nf s, tl0 "right") = _
      unfold nf
      rw [not_or_left hc]; rfl
    refine tail_PJ (sides := sides4) hk hnd (fun i o hi => ?_) (by simp [listOf]) (nf s) s.width s.fill s.side s.strict b h.width h.side (fun t ht => q0 _ t ht) (fun z => hst z) trivial
    have hl : i < (tailOps sides4).length := (List.getElem?_eq_some_iff.mp hi).1
    show (numOps.map oL ++ (tailOps sides4).map oR)[5 + i]? = _
    rw [List.getElem?_append_right (by simp [numOps]), List.length_map, show numOps.length = 5 from rfl, show 5 + i - 5 = i by omega, List.getElem?_map, hi]; rfl
  have := pj 0 ([⟨"number", "kind", 0, 0⟩] ++ [⟨nw s.fig, "number", 1, 12⟩] ++ [⟨nw s.plc, "number", 0, 6⟩]) (Nat.le_refl _) (by simp [toldN])
  exact this
end DL
namespace DL
open PySem PySem.Spec PyProof.Rows L2
noncomputable def allW : List (Op (WSp × Tl)) := [opBlank].map oL ++ (tailOps sides3).map oR
noncomputable def QW (a : WSp × Tl) : Prop := a.2.strict = true → a.1.least ≤ a.2.width
theorem keysW : allW.map Op.k = keysOf "word" := by simp [allW, tailOps, oL, oR, opBlank, opW, opF, opS, opK, keysOf]
theorem keysW_nd : (keysOf "word").Nodup := by simp [keysOf]
noncomputable def restW (s : WSp) (b : Int) : List Row := ⟨ssw s.signs (b / 64), "signs", 0, 0⟩ :: ⟨nw s.least, "number", 0, 24⟩ :: ⟨nw s.most, "number", s.least, 24⟩ :: (oi (32 ∈ s.signs) [key "blank"] ++ tailR "left" s.width s.fill s.side s.strict b)
theorem rowsW_eq (s : WSp) (b : Int) : (Spec.word s).rows b = ⟨"word", "kind", 0, 0⟩ :: restW s b := by
  simp [Spec.rows, headW, restW]
theorem rises_of : ∀ {l : List Nat}, l.Pairwise (· < ·) → rises l = true
  | [], _ => rfl
  | [a], _ => rfl
  | a :: b :: r, h => by
    have h' := List.pairwise_cons.mp h
    rw [rises, rises_of h'.2, decide_eq_true (h'.1 b (by simp))]; rfl
theorem filt_of {l : List Nat} (h : OkSg l) : l = if 32 ∈ l then 32 :: l.filter (· ≠ 32) else l.filter (· ≠ 32) := by
  cases l with
  | nil => exact (h.ne rfl).elim
  | cons a r =>
    have hp := List.pairwise_cons.mp h.up
    have low : ∀ x ∈ r, x ≠ 32 := fun x hx z => by
      have h1 := hp.1 x hx
      have h2 := AS_low a (h.sub a (by simp))
      omega
    have hr : r.filter (· ≠ 32) = r := List.filter_eq_self.mpr fun x hx => by simpa using low x hx
    by_cases ha : a = 32
    · rw [if_pos (by simp [ha]), List.filter_cons_of_neg (by simp [ha]), hr, ha]
    · have hn : 32 ∉ a :: r := fun z => by
        rcases List.mem_cons.mp z with z | z
        · exact ha z.symm
        · exact low 32 z rfl
      rw [if_neg hn, List.filter_cons_of_pos (by simpa using ha), hr]
theorem setOf_eq {r : Str} : setOf ("=" ++ r) = none := by
  have hh : ("=" ++ r : Str).cps.toList.head? = some 61 := by
    show ((("=" : Str).cps ++ r.cps).toList).head? = _
    rw [Array.toList_append]
    rfl
  have ne : ∀ p ∈ setsL, p.1.cps.toList.head? ≠ some 61 := by decide +kernel
  unfold setOf
  rw [List.find?_eq_none.mpr fun p hp z => by
    have z : p.1 = "=" ++ r := by simpa using z
    exact ne p hp (by rw [z]; exact hh)]
  rfl
theorem sgsN_ssw {l : List Nat} (h : OkSg l) (hb : l ≠ [32]) (b : Int) : sgsN (ssw l b) = some (l.filter (· ≠ 32)) := by
  have hf : l.filter (· ≠ 32) ≠ [] := fun z => by
    have := filt_of h
    rw [z] at this
    split at this
    · exact hb this
    · exact h.ne this
  have up : (l.filter (· ≠ 32)).Pairwise (· < ·) := h.up.sublist List.filter_sublist
  have eqc : sgsN ("=" ++ tx (l.filter (· ≠ 32))) = some (l.filter (· ≠ 32)) := by
    unfold sgsN
    rw [setOf_eq]
    have e1 : ("=" ++ tx (l.filter (· ≠ 32)) : Str) = tx (61 :: l.filter (· ≠ 32)) := by
      have : ("=" : Str) = tx [61] := rfl
      rw [this, tx_app]; rfl
    have hl := List.length_pos_iff.mpr hf
    rw [e1, tx_list, tx_len]
    simp only [List.drop_succ_cons, List.drop_zero]
    rw [if_pos ⟨by simp only [List.length_cons]; omega, rfl, rises_of up⟩]
  unfold ssw
  simp only
  split
  · cases hq : setsL.find? (fun p => p.2 = tx (l.filter (· ≠ 32))) with
    | none => simp only; exact eqc
    | some p =>
      simp only
      have hm := List.mem_of_find?_eq_some hq
      have hp : p.2 = tx (l.filter (· ≠ 32)) := by simpa using List.find?_some hq
      have key : ∀ p ∈ setsL, setOf p.1 = some p.2 := by decide +kernel
      unfold sgsN
      rw [key p hm, hp]
  · exact eqc
theorem lk_word (s : WSp) (h : s.Ok) (hb : s.signs ≠ [32]) (hst : s.strict = true → s.least ≤ s.width) (b : Int) : Lk "word" QW (fun a => a.1.signs = s.signs) [⟨"word", "kind", 0, 0⟩] (restW s b) ([tSigns, tLeast, tMost].map tL) allW (w0, tl0 "left") := by
  have q0 : ∀ (x : WSp) (t : Tl), t.strict = false → QW (x, t) := fun x t ht z => by
    have z : t.strict = true := z
    rw [ht] at z; cases z
  have hk := keysW
  have hnd := keysW_nd
  let f := s.signs.filter (· ≠ 32)
  refine .tok (b := ({ w0 with signs := f }, tl0 "left")) (q0 _ _ rfl) ?_ (fun w c hc => may_signs rfl ?_) ?_
  · show ((sgsN (ssw s.signs (b / 64))).map _).map _ = _
    rw [sgsN_ssw h.signs hb]; rfl
  · have hc : ((sgsN w).map _).map _ = some c := hc
    exact map_isSome (by rw [Option.map_map] at hc; exact hc)
  refine .tok (b := ({ w0 with signs := f, least := s.least }, tl0 "left")) (q0 _ _ rfl) ?_ (fun w c hc => may_num rfl ?_) ?_
  · show ((wholeN 0 24 (nw s.least)).map _).map _ = _
    rw [wholeN_nw (by have := h.least; omega) (by have := h.least; have := h.most; omega) h.least.1 (by have := h.least; have := h.most; omega)]; rfl
  · have hc : ((wholeN 0 24 w).map _).map _ = some c := hc
    exact map_isSome (by rw [Option.map_map] at hc; exact hc)
  refine .tok (b := ({ w0 with signs := f, least := s.least, most := s.most }, tl0 "left")) (q0 _ _ rfl) ?_ (fun w c hc => may_num rfl ?_) ?_
  · show ((wholeN s.least 24 (nw s.most)).map _).map _ = _
    rw [wholeN_nw (by have := h.least; omega) (by have := h.most; omega) h.least.2 h.most]; rfl
  · have hc : ((wholeN s.least 24 w).map _).map _ = some c := hc
    exact map_isSome (by rw [Option.map_map] at hc; exact hc)
  have pj : PJ "word" QW (fun a => a.1.signs = s.signs) allW 0 (oi (32 ∈ s.signs) [key "blank"] ++ tailR "left" s.width s.fill s.side s.strict b) ({ w0 with signs := f, least := s.least, most := s.most }, tl0 "left") := by
    have fo := filt_of h.signs
    refine PJ.clause (o := oL opBlank) (a' := ({ w0 with signs := s.signs, least := s.least, most := s.most }, tl0 "left")) hk hnd rfl (q0 _ _ rfl) (fun hc => ?_) (fun hc => ?_) ?_
    · rw [if_pos hc] at fo
      have : (oL opBlank).f (({ w0 with signs := f, least := s.least, most := s.most }, tl0 "left") : WSp × Tl) = ({ w0 with signs := s.signs, least := s.least, most := s.most }, tl0 "left") := by
        show (({ w0 with signs := 32 :: f, least := s.least, most := s.most } : WSp), tl0 "left") = _
        rw [show 32 :: f = s.signs from fo.symm]
      rw [this]; exact .nil
    · rw [if_neg hc] at fo
      rw [show f = s.signs from fo.symm]
    refine tail_PJ (sides := sides3) hk hnd (fun i o hi => ?_) (by simp [listOf]) _ s.width s.fill s.side s.strict b h.width h.side (fun t ht => q0 _ t ht) (fun z => hst z) rfl
    show ([opBlank].map oL ++ (tailOps sides3).map oR)[1 + i]? = _
    rw [List.getElem?_append_right (by simp), List.length_map, show [opBlank].length = 1 from rfl, show 1 + i - 1 = i by omega, List.getElem?_map, hi]; rfl
  have := pj 0 ([⟨"word", "kind", 0, 0⟩] ++ [⟨ssw s.signs (b / 64), "signs", 0, 0⟩] ++ [⟨nw s.least, "number", 0, 24⟩] ++ [⟨nw s.most, "number", s.least, 24⟩]) (Nat.le_refl _) (by simp [toldN])
  exact this
noncomputable def allC : List (Op (CSp × Tl)) := (tailOps sides3).map oR
noncomputable def QC (a : CSp × Tl) : Prop := a.2.strict = true → a.1.short ≤ a.2.width
theorem keysC : allC.map Op.k = keysOf "choice" := by simp [allC, tailOps, oR, opW, opF, opS, opK, keysOf]
theorem keysC_nd : (keysOf "choice").Nodup := by simp [keysOf]
noncomputable def nmR (l : List Nat) : Row := ⟨tx l, "name", 0, 0⟩
noncomputable def rest2 (s : CSp) (b : Int) : List Row := s.names.map nmR ++ tailR "left" s.width s.fill s.side s.strict b
theorem rowsC_eq (s : CSp) (b : Int) : (Spec.cho s).rows b = ⟨"choice", "kind", 0, 0⟩ :: ⟨nw s.names.length, "number", 1, 12⟩ :: rest2 s b := by
  simp [Spec.rows, headC, rest2, nmR]
theorem lk_cho (s : CSp) (h : s.Ok) (hst : s.strict = true → s.short ≤ s.width) (b : Int) :
    Lk "choice" QC (fun _ => True) [⟨"choice", "kind", 0, 0⟩, ⟨nw s.names.length, "number", 1, 12⟩] (rest2 s b) ((List.replicate s.names.length tName).map tL) allC (c0, tl0 "left") := by
  have q0 : ∀ (x : CSp) (t : Tl), t.strict = false → QC (x, t) := fun x t ht z => by
    have z : t.strict = true := z
    rw [ht] at z; cases z
  have hk := keysC
  have hnd := keysC_nd
  have pj : PJ "choice" QC (fun _ => True) allC 0 (tailR "left" s.width s.fill s.side s.strict b) ({ c0 with names := s.names }, tl0 "left") := by
    refine tail_PJ (sides := sides3) hk hnd (fun i o hi => ?_) (by simp [listOf]) _ s.width s.fill s.side s.strict b h.width h.side (fun t ht => q0 _ t ht) (fun z => hst z) trivial
    show ((tailOps sides3).map oR)[0 + i]? = _
    rw [Nat.zero_add, List.getElem?_map, hi]; rfl
  have go : ∀ (todo done : List (List Nat)), done ++ todo = s.names → Lk "choice" QC (fun _ => True) ([⟨"choice", "kind", 0, 0⟩, ⟨nw s.names.length, "number", 1, 12⟩] ++ done.map nmR) (todo.map nmR ++ tailR "left" s.width s.fill s.side s.strict b) ((List.replicate todo.length tName).map tL) allC ({ c0 with names := done }, tl0 "left") := by
    intro todo
    induction todo with
    | nil =>
      intro done hd
      rw [List.append_nil] at hd
      subst hd
      refine pj 0 _ (Nat.le_refl _) ?_
      have : ∀ ls : List (List Nat), toldN (keysOf "choice") (ls.map nmR) = 0 := by
        intro ls
        induction ls with
        | nil => rfl
        | cons l ls ih => rw [List.map_cons, toldN, ih]; simp [nmR]
      have h2 := this s.names
      simp [toldN, h2]
    | cons l todo ih =>
      intro done hd
      have hmem : l ∈ s.names := by rw [← hd]; simp
      have hok := h.names.ok l hmem
      have hnot : l ∉ done := by
        have := h.names.nd
        rw [← hd] at this
        intro z
        exact (List.nodup_append.mp this).2.2 l z l (by simp) rfl
      rw [List.map_cons, List.cons_append, List.length_cons, List.replicate_succ, List.map_cons]
      refine .tok (b := ({ c0 with names := done ++ [l] }, tl0 "left")) (q0 _ _ rfl) ?_ (fun w c hc => ?_) ?_
      · show (if 1 ≤ (tx l).length ∧ (tx l).length ≤ 12 ∧ (tx l).cps.toList ∉ done then some _ else none : Option CSp).map _ = _
        rw [tx_len, tx_list, if_pos ⟨hok.lo, hok.hi, hnot⟩]; rfl
      · have hc : (if 1 ≤ w.length ∧ w.length ≤ 12 ∧ w.cps.toList ∉ done then some _ else none : Option CSp).map _ = some c := hc
        by_cases z : 1 ≤ w.length ∧ w.length ≤ 12 ∧ w.cps.toList ∉ done
        · unfold mayR nmR
          rw [if_neg (by simp), if_neg (by simp), if_neg (by simp), if_neg (by simp), if_pos rfl]
          have e : ((([⟨"choice", "kind", 0, 0⟩, ⟨nw s.names.length, "number", 1, 12⟩] : List Row) ++ done.map nmR).drop 2).map Row.w = done.map tx := by
            show (done.map nmR).map Row.w = _
            rw [List.map_map]; rfl
          have hn : w ∉ done.map tx := fun y => z.2.2 (mem_tx.mp y)
          show (decide _ && decide _ && decide (w ∉ ((([⟨"choice", "kind", 0, 0⟩, ⟨nw s.names.length, "number", 1, 12⟩] : List Row) ++ done.map nmR).drop 2).map Row.w)) = true
          rw [e]
          simp [z.1, z.2.1, hn]
        · rw [if_neg z] at hc; cases hc
      · have := ih (done ++ [l]) (by rw [List.append_assoc]; exact hd)
        rw [List.map_append, List.map_singleton, ← List.append_assoc] at this
        exact this
  have := go s.names [] (by simp)
  exact this
end DL
namespace DL
open PySem PySem.Spec PyProof.Rows L2
structure OkT (W : List Str) : Prop extends OkW W where
  ne : W ≠ []
  sub : ∀ w ∈ W, ∀ c ∈ w.cps.toList, c ∈ AN
theorem noBlank {W : List Str} (h : OkT W) : ∀ p ∈ W, 32 ∉ TL.tl p := fun p hp z => by
  have := AN_low 32 (h.sub p hp 32 z)
  omega
theorem join_facts : ∀ W : List Str, (∀ w ∈ W, w.length ≤ 600) → (∀ w ∈ W, ∀ c ∈ w.cps.toList, c ∈ AN) → (∀ c ∈ TL.joinL [32] (W.map TL.tl), c ∈ AS) ∧ (TL.joinL [32] (W.map TL.tl)).length ≤ 601 * W.length
  | [], _, _ => ⟨fun c hc => (by cases hc), by simp [TL.joinL]⟩
  | [w], h1, h2 => ⟨fun c hc => AN_sub c (h2 w (by simp) c hc), by
      have := h1 w (by simp)
      have e : w.length = w.cps.toList.length := by rw [Array.length_toList]; rfl
      show (TL.tl w).length ≤ _
      show w.cps.toList.length ≤ _
      simp only [List.length_cons, List.length_nil]; omega⟩
  | w :: v :: r, h1, h2 => by
    obtain ⟨a, b⟩ := join_facts (v :: r) (fun x hx => h1 x (List.mem_cons_of_mem _ hx)) (fun x hx => h2 x (List.mem_cons_of_mem _ hx))
    have hw := h1 w (by simp)
    have e : w.length = w.cps.toList.length := by rw [Array.length_toList]; rfl
    have ej : TL.joinL [32] ((w :: v :: r).map TL.tl) = w.cps.toList ++ ([32] ++ TL.joinL [32] ((v :: r).map TL.tl)) := rfl
    rw [ej]
    refine ⟨fun c hc => ?_, ?_⟩
    · rcases List.mem_append.mp hc with hc | hc
      · exact AN_sub c (h2 w (by simp) c hc)
      · rcases List.mem_append.mp hc with hc | hc
        · rw [List.mem_singleton.mp hc]; decide +kernel
        · exact a c hc
    · simp only [List.length_append, List.length_cons, List.length_nil] at b ⊢; omega
theorem join_tl (W : List Str) : (Txt.join " " W).cps.toList = TL.joinL [32] (W.map TL.tl) := by
  rw [TL.join_eq]
  exact TL.tl_join " " W
theorem tab_all : hTab kv_SIGNS (.str "all") = some (.str (tx AN)) := by
  rw [kv_sets]
  simp [hTab, tabD, setsL]
theorem mem_AS {c : Nat} (h : c ∈ AS) : c = 32 ∨ c ∈ AN := by
  have : AS = 32 :: AN := by decide +kernel
  rw [this] at h
  exact List.mem_cons.mp h
theorem e_is_text {l : List Nat} (h : ∀ c ∈ l, c ∈ AS) : F_is_text [.str (tx l)] = .ok (.fz (.bl true)) := by
  have k1 : kitB "str" "str" = some true := by decide +kernel
  have loop : ∀ (l : List Nat) (c1 : Cell) (a0 : Cell), Pl c1 → (∀ c ∈ l, c ∈ AS) → ∃ d1, forL (gtName 1) (sIf (mAnd (mOpt2 hNeS (gVar 1) (gC (.str " "))) (mOpt2 hNotInQ (gVar 1) (mOpt (hTab kv_SIGNS) (gC (.str "all"))))) (sRet (mMap Cell.fz (gC (.bl false)))) sNil) (l.map fun c => .str (sgn c)) [a0, c1] = .ok (.nx [a0, d1]) := by
    intro l
    induction l with
    | nil => intro c1 a0 h1 _; exact ⟨c1, rfl⟩
    | cons c l ih =>
      intro c1 a0 h1 hs
      have q1 : gtName 1 (.str (sgn c)) [a0, c1] = .ok (.nx [a0, .fz (.str (sgn c))]) := by
        simp -implicitDefEqProofs [setC_pl h1]
      have hb : (sgn c = " ") = (c = 32) := by
        apply propext
        exact ⟨fun h => by have := tx_inj (a := [c]) (b := [32]) h; simpa using this, fun h => by rw [h]; rfl⟩
      have q2 : sIf (mAnd (mOpt2 hNeS (gVar 1) (gC (.str " "))) (mOpt2 hNotInQ (gVar 1) (mOpt (hTab kv_SIGNS) (gC (.str "all"))))) (sRet (mMap Cell.fz (gC (.bl false)))) sNil [a0, .fz (.str (sgn c))] = .ok (.nx [a0, .fz (.str (sgn c))]) := by
        rcases mem_AS (hs c (by simp)) with z | z
        · subst z
          have e : sgn 32 = " " := rfl
          simp -implicitDefEqProofs [e]
        · have hn : hNotInQ (.str (sgn c)) (.str (tx AN)) = some false := by
            show ((match (sgn c).cps.toList with | [c] => some (decide (c ∈ (tx AN).cps.toList)) | _ => none).map _) = _
            show some (!decide (c ∈ (tx AN).cps.toList)) = _
            rw [tx_list, decide_eq_true z]; rfl
          by_cases z32 : c = 32
          · have e : sgn c = " " := by rw [hb]; exact z32
            simp -implicitDefEqProofs [e]
          · simp -implicitDefEqProofs [hb, z32, tab_all, hn]
      obtain ⟨d1, hd⟩ := ih (.fz (.str (sgn c))) a0 (.inr ⟨_, rfl⟩) fun x hx => hs x (List.mem_cons_of_mem _ hx)
      refine ⟨d1, ?_⟩
      rw [List.map_cons, forL, q1]
      simp -implicitDefEqProofs only [Res.bind_ok]
      rw [q2]; exact hd
  obtain ⟨d1, hd⟩ := loop l .no (.fz (.str (tx l))) (.inl rfl) h
  unfold F_is_text
  refine Ret.runs rfl (Ret.sq [.fz (.str (tx l)), .no] ?_ (Ret.sq [.fz (.str (tx l)), d1] ?_ (Ret.ret ?_)))
  · simp -implicitDefEqProofs [hIsi, tyD, k1]
  · rw [ev_sFor]
    have : (mOpt hSgn (gVar 0)) [.fz (.str (tx l)), .no] = .ok (l.map fun c => .str (sgn c), [.fz (.str (tx l)), .no]) := by simp -implicitDefEqProofs [hSgn]
    rw [this]; exact hd
  · simp -implicitDefEqProofs
/-- what a part that reads a kind gives -/
noncomputable def KindR (W : List Str) (r : Res (Cell × Cell)) : Res Cell := match r with
  | .ok (c, s) => match s with
    | .ob _ _ [_, .int q] => if q < W.length then .ex (NF q) else .ok c
    | _ => .stuck
  | .ex x => .ex x
  | .stuck => .stuck
noncomputable def kindF (W : List Str) : Res (Cell × Cell) :=
  if W[0]? = some ("number" : Str) then F_read_number_form (rdC W 1) [] else if W[0]? = some ("word" : Str) then F_read_word_form (rdC W 1) [] else F_read_choice_form (rdC W 1) []
theorem m_rd1 {W : List Str} {p : Nat} {a c2 c3 : Cell} {m : Str} {S : SF} {r : M (List D)} {args : List D} (hr : r [a, rdC W p, c2, c3] = .ok (args, [a, rdC W p, c2, c3])) (h1 : m ≠ "told") (h2 : m ≠ "at") :
    gMethS "Reading" m S 1 r [a, rdC W p, c2, c3] = (S (rdC W p) args).map fun q => (q.1, [a, q.2, c2, c3]) := by
  have hl : lookF m ["told", "at"] [D.lst (W.map D.str), D.int (p : Int)] = none := by
    unfold lookF
    rw [if_neg h1]
    unfold lookF
    rw [if_neg h2]
    rfl
  show (if ("Reading" : Str) = "Reading" ∧ lookF m ["told", "at"] [D.lst (W.map D.str), D.int (p : Int)] = none then gCallS S 1 r [a, rdC W p, c2, c3] else .stuck) = _
  rw [if_pos ⟨rfl, hl⟩]
  show (r [a, rdC W p, c2, c3]).bind _ = _
  rw [hr]; rfl
noncomputable def Fin1 (c : Cell) : Prop := (∃ d, c = .fz d) ∨ ∃ n ns ds, c = .ob n ns ds
theorem e_read_form {W : List Str} (hW : OkT W) (hk : ∃ k ∈ (["number", "word", "choice"] : List Str), W[0]? = some k) (hf : ∀ c s, kindF W = .ok (c, s) → Fin1 c ∧ ∃ q : Nat, s = rdC W q) :
    F_read_form [.str (Txt.join " " W)] = KindR W (kindF W) := by
  obtain ⟨k, hkm, hk0⟩ := hk
  obtain ⟨jf, jl⟩ := join_facts W hW.small hW.sub
  have jt := join_tl W
  have ej : Txt.join " " W = tx (TL.joinL [32] (W.map TL.tl)) := by rw [← jt, tx_eta]
  have it := e_is_text (l := TL.joinL [32] (W.map TL.tl)) jf
  rw [← ej] at it
  have sp : Txt.split (Txt.join " " W) " " = W := TL.split_join (y := " ") (s := 32) (S := []) rfl (by decide +kernel) hW.ne (noBlank hW)
  have hsp : hSplit (.str (Txt.join " " W)) [.str " "] = some (W.map D.str) := by
    have hlen : (Txt.join " " W).length = (TL.joinL [32] (W.map TL.tl)).length := by rw [ej, tx_len]
    have := hW.few
    show (if ((" " : Str).length == 0) = false ∧ (Txt.join " " W).length + 2 ≤ sizeLine then some ((Txt.split (Txt.join " " W) " ").map D.str) else none) = _
    rw [if_pos ⟨rfl, by rw [hlen, sizeLine_eq]; omega⟩, sp]
  generalize Txt.join " " W = T at it hsp
  have ini : F_Reading_init (.ob "Reading" [] []) [.lst (W.map D.str)] = .ok (.fz .non, rdC W 0) := by
    unfold F_Reading_init
    simp -implicitDefEqProofs [sSetF, putN, putX, rdC]
  have one := r_oneOf ["number", "word", "choice"] W 0 hW.toOkW (Nat.zero_le _)
  unfold tokR oneT at one
  rw [hk0] at one
  simp -implicitDefEqProofs only at one
  rw [if_pos hkm] at one
  simp -implicitDefEqProofs only [List.map_cons, List.map_nil] at one
  unfold F_read_form
  show Res.bind (sSeq _ _ [.fz (.str T), .no, .no, .no]) outC = _
  have s1 : sIf (mNot (mOpt hBl (mOpt Cell.toD (gCall F_is_text (aCons (gVar 0) aNil))))) (sRaise1 "NoForm" "at" (gC (.int 0))) sNil [.fz (.str T), .no, .no, .no] = .ok (.nx [.fz (.str T), .no, .no, .no]) := by
    simp -implicitDefEqProofs [it]
  rw [ev_sSeq, s1]
  simp -implicitDefEqProofs only [Res.bind_ok, ev_sThen_nx]
  have s2 : sSet 1 (gMake "Reading" F_Reading_init (aCons (mOpt Cell.toD (gBMn isStrD hSplit (gVar 0) (aCons (gC (.str " ")) aNil))) aNil)) [.fz (.str T), .no, .no, .no] = .ok (.nx [.fz (.str T), rdC W 0, .no, .no]) := by
    simp -implicitDefEqProofs [gBMn, isStrD, hsp, gMake, ini]
  rw [ev_sSeq, s2]
  simp -implicitDefEqProofs only [Res.bind_ok, ev_sThen_nx]
  have s3 : sSet 2 (gMethS "Reading" "one_of" F_Reading_one_of 1 (aCons (mOpt Cell.toD (mMap Cell.ow (mOpt okLen (aCons (gC (.str "number")) (aCons (gC (.str "word")) (aCons (gC (.str "choice")) aNil)))))) aNil)) [.fz (.str T), rdC W 0, .no, .no] = .ok (.nx [.fz (.str T), rdC W 1, .fz (.str k), .no]) := by
    rw [ev_sSet, m_rd1 (args := [.lst [.str "number", .str "word", .str "choice"]]) (by simp -implicitDefEqProofs) (by decide) (by decide), one]
    rfl
  rw [ev_sSeq, s3]
  simp -implicitDefEqProofs only [Res.bind_ok, ev_sThen_nx]
  have s4 : sIf (mOpt2 hEqS (gVar 2) (gC (.str "number"))) (sSet 3 (gCallS F_read_number_form 1 aNil)) (sIf (mOpt2 hEqS (gVar 2) (gC (.str "word"))) (sSet 3 (gCallS F_read_word_form 1 aNil)) (sSet 3 (gCallS F_read_choice_form 1 aNil))) [.fz (.str T), rdC W 1, .fz (.str k), .no]
      = (kindF W).bind fun q => .ok (.nx [.fz (.str T), q.2, .fz (.str k), q.1]) := by
    have g2 : ∀ {n : Str}, (mOpt2 hEqS (gVar 2) (gC (.str n))) [.fz (.str T), rdC W 1, .fz (.str k), .no] = .ok (decide (k = n), [.fz (.str T), rdC W 1, .fz (.str k), .no]) := by
      intro n
      simp -implicitDefEqProofs [rdC]
    have gc : ∀ S : SF, sSet 3 (gCallS S 1 aNil) [.fz (.str T), rdC W 1, .fz (.str k), .no] = (S (rdC W 1) []).bind fun q => .ok (.nx [.fz (.str T), q.2, .fz (.str k), q.1]) := by
      intro S
      rw [ev_sSet]
      show Res.bind ((S (rdC W 1) []).map _) _ = _
      cases S (rdC W 1) [] <;> rfl
    unfold kindF
    rw [hk0, ev_sIf, g2]
    simp -implicitDefEqProofs only [Res.bind_ok]
    by_cases h1 : k = "number"
    · rw [if_pos (decide_eq_true h1), if_pos (by rw [h1]), gc]
    · rw [if_neg (by simpa using h1), if_neg (by simpa using h1), ev_sIf, g2]
      simp -implicitDefEqProofs only [Res.bind_ok]
      by_cases h2 : k = "word"
      · rw [if_pos (decide_eq_true h2), if_pos (by rw [h2]), gc]
      · rw [if_neg (by simpa using h2), if_neg (by simpa using h2), gc]
  rw [ev_sSeq, s4]
  cases hq : kindF W with
  | stuck => rfl
  | ex x => rfl
  | ok r =>
    obtain ⟨c, s⟩ := r
    obtain ⟨hc, q, rfl⟩ := hf c s hq
    simp -implicitDefEqProofs only [Res.bind_ok, ev_sThen_nx]
    have ga : gFldN 1 ["Reading"] "at" [.fz (.str T), rdC W q, .fz (.str k), c] = .ok (.int q, [.fz (.str T), rdC W q, .fz (.str k), c]) := rfl
    have gt : gFldN 1 ["Reading"] "told" [.fz (.str T), rdC W q, .fz (.str k), c] = .ok (.lst (W.map D.str), [.fz (.str T), rdC W q, .fz (.str k), c]) := rfl
    unfold KindR
    simp -implicitDefEqProofs only [rdC] at ga gt ⊢
    by_cases hlt : (q : Int) < (W.length : Int)
    · rw [if_pos hlt]
      simp -implicitDefEqProofs [ga, gt, hLenL, hlt, NF]
    · rw [if_neg hlt]
      rcases hc with ⟨d, rfl⟩ | ⟨n, ns, ds, rfl⟩
      · simp -implicitDefEqProofs [ga, gt, hLenL, hlt]
      · simp -implicitDefEqProofs [ga, gt, hLenL, hlt]
end DL
namespace DL
open PySem PySem.Spec PyProof.Rows L2
section
variable {α : Type} {kd : Str} {Q Z : α → Prop} {pre rest : List Row} {ts : List (Tk α)} {os : List (Op α)} {a : α} {W : List Str} {p0 i : Nat} {x : Str}
theorem run_out (L : Lk kd Q Z pre rest ts os a) (hi : i ≤ rest.length) (hpre : ∀ j, j < i → W[p0 + j]? = (rest.map Row.w)[j]?) (hx : W[p0 + i]? = some x) (hm : mayR kd (pre ++ rest.take i) (rowAt (rest.drop i)) x = false) :
    run W ts os a p0 = .error (p0 + i) ∨ ∃ a', Q a' ∧ run W ts os a p0 = .ok (a', p0 + i) := by
  obtain ⟨ts', os', a', e1, e2⟩ := L.steps hi
  have hl : ((rest.take i).map Row.w).length = i := by rw [List.length_map, List.length_take]; omega
  have rs := run_steps (W := W) (p := p0) (fun j hj => by
    rw [hl] at hj
    rw [hpre j hj, List.map_take, List.getElem?_take_of_lt hj]) e1
  rw [hl] at rs
  have hn : step (ts', os', a') x = none := by
    cases hs : step (ts', os', a') x with
    | none => rfl
    | some s => have := e2.may hs; rw [hm] at this; cases this
  rw [rs]
  rcases run_bad hx hn with h | h
  · exact .inl h
  · exact .inr ⟨a', e2.q, h⟩
theorem run_all (L : Lk kd Q Z pre rest ts os a) (hpre : ∀ j, j < rest.length → W[p0 + j]? = (rest.map Row.w)[j]?) (hx : W[p0 + rest.length]? = none) : ∃ a', Q a' ∧ Z a' ∧ run W ts os a p0 = .ok (a', p0 + rest.length) := by
  obtain ⟨ts', os', a', e1, e2⟩ := L.steps (Nat.le_refl rest.length)
  rw [List.take_length] at e1
  rw [List.take_length, List.drop_length] at e2
  have rs := run_steps (W := W) (p := p0) (fun j hj => by
    rw [List.length_map] at hj
    exact hpre j hj) e1
  rw [List.length_map] at rs
  cases e2 with
  | nil hq hz hm => exact ⟨a', hq, hz, by rw [rs]; exact run_end hx os' a'⟩
end
noncomputable def Spec.kind : Spec → Str
  | .num _ => "number"
  | .word _ => "word"
  | .cho _ => "choice"
noncomputable def Spec.rest (b : Int) : Spec → List Row
  | .num s => restN s b
  | .word s => restW s b
  | .cho s => ⟨nw s.names.length, "number", 1, 12⟩ :: rest2 s b
theorem rows_eq (s : Spec) (b : Int) : s.rows b = ⟨s.kind, "kind", 0, 0⟩ :: s.rest b := by
  cases s with
  | num s => exact rowsN_eq s b
  | word s => exact rowsW_eq s b
  | cho s => exact rowsC_eq s b
theorem wholeC {s : CSp} (h : s.Ok) : wholeN 1 12 (nw s.names.length) = some (s.names.length : Int) := by
  have h1 := h.names.lo
  have h2 := h.names.hi
  exact wholeN_nw (by omega) (by omega) (by omega) (by omega)
/-- what a kind's part gives where a bad word stands -/
theorem kind_bad (s : Spec) (h : s.Ok) (b : Int) {W : List Str} (hW : OkT W) {i : Nat} {x : Str} (hi : i ≤ (s.rest b).length) (h0 : W[0]? = some s.kind) (hpre : ∀ j, j < i → W[1 + j]? = ((s.rest b).map Row.w)[j]?) (hx : W[1 + i]? = some x)
    (hm : mayR s.kind (⟨s.kind, "kind", 0, 0⟩ :: (s.rest b).take i) (rowAt ((s.rest b).drop i)) x = false) :
    kindF W = .ex (NF ((1 + i : Nat) : Int)) ∨ ∃ c, Fin1 c ∧ kindF W = .ok (c, rdC W (1 + i)) := by
  have hlt : 1 ≤ W.length := by have := (List.getElem?_eq_some_iff.mp hx).1; omega
  cases s with
  | num s =>
    unfold kindF
    rw [if_pos (show W[0]? = some ("number" : Str) from h0), e_read_number hW.toOkW hlt]
    rcases run_out (lk_num s h.1 h.2 b) hi hpre hx hm with e | ⟨a', q, e⟩
    · left
      show (match run W ([tFig, tPlc].map tL) allN (n0, tl0 "right") 1 with | .error q => _ | .ok (nt, q) => _ : Res (Cell × Cell)) = _
      rw [e]
    · right
      show ∃ c, Fin1 c ∧ (match run W ([tFig, tPlc].map tL) allN (n0, tl0 "right") 1 with | .error q => _ | .ok (nt, q) => _ : Res (Cell × Cell)) = _
      rw [e]
      simp only
      rw [if_neg (by rintro ⟨z1, z2⟩; have := q z1; omega)]
      exact ⟨_, .inl ⟨_, rfl⟩, rfl⟩
  | word s =>
    unfold kindF
    rw [if_neg (by rw [h0]; simp [Spec.kind]), if_pos (show W[0]? = some ("word" : Str) from h0), e_read_word hW.toOkW hlt]
    rcases run_out (lk_word s h.1 h.2.1 h.2.2 b) hi hpre hx hm with e | ⟨a', q, e⟩
    · left
      show (match run W ([tSigns, tLeast, tMost].map tL) allW (w0, tl0 "left") 1 with | .error q => _ | .ok (nt, q) => _ : Res (Cell × Cell)) = _
      rw [e]
    · right
      show ∃ c, Fin1 c ∧ (match run W ([tSigns, tLeast, tMost].map tL) allW (w0, tl0 "left") 1 with | .error q => _ | .ok (nt, q) => _ : Res (Cell × Cell)) = _
      rw [e]
      simp only
      rw [if_neg (by rintro ⟨z1, z2⟩; have := q z1; omega)]
      exact ⟨_, .inr ⟨_, _, _, rfl⟩, rfl⟩
  | cho s =>
    unfold kindF
    rw [if_neg (by rw [h0]; simp [Spec.kind]), if_neg (by rw [h0]; simp [Spec.kind]), e_read_cho hW.toOkW hlt]
    unfold runC
    cases i with
    | zero =>
      have hx : W[1]? = some x := hx
      rw [hx]
      have hm' : (wholeN 1 12 x).isSome = false := by
        cases hq : (wholeN 1 12 x).isSome with
        | false => rfl
        | true => exact absurd (hm.symm.trans (may_num (r := rowAt (List.drop 0 (Spec.rest b (.cho s)))) rfl hq)) (by simp)
      cases hw : wholeN 1 12 x with
      | some n => rw [hw] at hm'; cases hm'
      | none => left; simp only [hw]
    | succ i =>
      have h1 := hpre 0 (by omega)
      have h1 : W[1]? = some (nw s.names.length) := h1
      rw [h1]
      simp only
      rw [wholeC h.1]
      simp only [Int.toNat_natCast]
      have hm' : mayR "choice" ([⟨"choice", "kind", 0, 0⟩, ⟨nw s.names.length, "number", 1, 12⟩] ++ (rest2 s b).take i) (rowAt ((rest2 s b).drop i)) x = false := hm
      have hpre' : ∀ j, j < i → W[2 + j]? = ((rest2 s b).map Row.w)[j]? := fun j hj => by
        have := hpre (j + 1) (by omega)
        rw [show 1 + (j + 1) = 2 + j by omega] at this
        exact this
      have hx' : W[2 + i]? = some x := by rw [show 2 + i = 1 + (i + 1) by omega]; exact hx
      have hi' : i ≤ (rest2 s b).length := by simpa [Spec.rest] using hi
      rcases run_out (lk_cho s h.1 h.2 b) hi' hpre' hx' hm' with e | ⟨a', q, e⟩
      · left
        show (match run W ((List.replicate s.names.length tName).map tL) allC (c0, tl0 "left") 2 with | .error q => _ | .ok (nt, q) => _ : Res (Cell × Cell)) = _
        rw [e]
        simp only
        rw [show 2 + i = 1 + (i + 1) by omega]
      · right
        show ∃ c, Fin1 c ∧ (match run W ((List.replicate s.names.length tName).map tL) allC (c0, tl0 "left") 2 with | .error q => _ | .ok (nt, q) => _ : Res (Cell × Cell)) = _
        rw [e]
        simp only
        rw [if_neg (by rintro ⟨z1, z2⟩; have := q z1; omega), show 2 + i = 1 + (i + 1) by omega]
        exact ⟨_, .inr ⟨_, _, _, rfl⟩, rfl⟩
theorem kind_good (s : Spec) (h : s.Ok) (b : Int) {W : List Str} (hW : OkT W) (hw : W = (s.rows b).map Row.w) :
    ∃ c, Fin1 c ∧ kindF W = .ok (c, rdC W W.length) ∧ ∀ w, s = .word w → ∃ a t, c = .ob "WordForm" wNs (wDs a t) ∧ a.signs = w.signs := by
  have hr := rows_eq s b
  rw [hr] at hw
  have hl : W.length = 1 + (s.rest b).length := by rw [hw]; simp; omega
  have hlt : 1 ≤ W.length := by omega
  have h0 : W[0]? = some s.kind := by rw [hw]; rfl
  have hpre : ∀ j, W[1 + j]? = ((s.rest b).map Row.w)[j]? := fun j => by
    rw [hw, List.map_cons, Nat.add_comm, List.getElem?_cons_succ]
  have hend : W[1 + (s.rest b).length]? = none := by rw [List.getElem?_eq_none]; omega
  cases s with
  | num s =>
    obtain ⟨a', q, _, e⟩ := run_all (lk_num s h.1 h.2 b) (W := W) (p0 := 1) (fun j _ => hpre j) hend
    unfold kindF
    rw [if_pos (show W[0]? = some ("number" : Str) from h0), e_read_number hW.toOkW hlt]
    show ∃ c, Fin1 c ∧ (match run W ([tFig, tPlc].map tL) allN (n0, tl0 "right") 1 with | .error q => _ | .ok (nt, q) => _ : Res (Cell × Cell)) = _ ∧ _
    rw [e]
    simp only
    rw [if_neg (by rintro ⟨z1, z2⟩; have := q z1; omega), hl]
    exact ⟨_, .inl ⟨_, rfl⟩, rfl, fun w z => by cases z⟩
  | word s =>
    obtain ⟨a', q, hz, e⟩ := run_all (lk_word s h.1 h.2.1 h.2.2 b) (W := W) (p0 := 1) (fun j _ => hpre j) hend
    unfold kindF
    rw [if_neg (by rw [h0]; simp [Spec.kind]), if_pos (show W[0]? = some ("word" : Str) from h0), e_read_word hW.toOkW hlt]
    show ∃ c, Fin1 c ∧ (match run W ([tSigns, tLeast, tMost].map tL) allW (w0, tl0 "left") 1 with | .error q => _ | .ok (nt, q) => _ : Res (Cell × Cell)) = _ ∧ _
    rw [e]
    simp only
    rw [if_neg (by rintro ⟨z1, z2⟩; have := q z1; omega), hl]
    exact ⟨_, .inr ⟨_, _, _, rfl⟩, rfl, fun w z => by cases z; exact ⟨_, _, rfl, hz⟩⟩
  | cho s =>
    have hl2 : (Spec.rest b (.cho s)).length = 1 + (rest2 s b).length := by simp [Spec.rest]; omega
    obtain ⟨a', q, _, e⟩ := run_all (lk_cho s h.1 h.2 b) (W := W) (p0 := 2) (fun j _ => by
      have := hpre (j + 1)
      rw [show 1 + (j + 1) = 2 + j by omega] at this
      exact this) (by rw [List.getElem?_eq_none]; omega)
    unfold kindF
    rw [if_neg (by rw [h0]; simp [Spec.kind]), if_neg (by rw [h0]; simp [Spec.kind]), e_read_cho hW.toOkW hlt]
    unfold runC
    have h1 : W[1]? = some (nw s.names.length) := hpre 0
    rw [h1]
    simp only
    rw [wholeC h.1]
    simp only [Int.toNat_natCast]
    show ∃ c, Fin1 c ∧ (match run W ((List.replicate s.names.length tName).map tL) allC (c0, tl0 "left") 2 with | .error q => _ | .ok (nt, q) => _ : Res (Cell × Cell)) = _ ∧ _
    rw [e]
    simp only
    rw [if_neg (by rintro ⟨z1, z2⟩; have := q z1; omega), hl, hl2]
    exact ⟨_, .inr ⟨_, _, _, rfl⟩, by rw [show 2 + (rest2 s b).length = 1 + (1 + (rest2 s b).length) by omega], fun w z => by cases z⟩
end DL
namespace DL
open PySem PySem.Spec PyProof.Rows L2
structure OkWd (w : Str) : Prop where
  small : w.length ≤ 500
  sub : ∀ c ∈ w.cps.toList, c ∈ AN
/-- a comprehension with a test -/
theorem comp_filt {i : Nat} {xs : List D} {t : M Bool} {f : M D} {r : M (List D)} {env0 env : DEnv} {c : Cell} (pr : D → Bool) (y : D → D) (hr : r env0 = .ok (xs, env)) (hc : env[i]? = some c) (hp : Pl c) (hl : xs.length ≤ sizeLine)
    (ht : ∀ x ∈ xs, t (env.set i (.fz x)) = .ok (pr x, env.set i (.fz x))) (hf : ∀ x ∈ xs, pr x = true → f (env.set i (.fz x)) = .ok (y x, env.set i (.fz x))) : gComp r (gtName i) t f [i] env0 = .ok (.ow ((xs.filter pr).map y), env) := by
  have ilt : i < env.length := (List.getElem?_eq_some_iff.mp hc).1
  obtain ⟨e', he, q⟩ := compL_run (g := gtName i) (t := t) (f := f) (own := [i]) (fun e => e = env.set i .no) pr y xs [] (env.set i .no) rfl (by simpa using hl) (by
    intro x hx e he
    subst he
    have wp : wipeD (env.set i (.fz x)) [i] = env.set i .no := by
      show ((env.set i (.fz x)).set i .no) = _
      rw [List.set_set]
    refine ⟨env.set i (.fz x), env.set i (.fz x), ?_, ht x hx, fun _ => wp, fun hpx => ⟨_, hf x hx hpx, wp⟩⟩
    rw [ev_gtName, setC_Pl (c0 := .no) (by simp [ilt]) (.inl rfl), List.set_set])
  subst he
  rw [ev_gComp, hr]
  show (if [i].all (fun i => plainC env[i]?) = true then (compL (gtName i) t f [i] xs [] (env.set i .no)).map _ else _) = _
  rw [if_pos (by simp [hc, plainC, hp.plain]), q]
  show Res.ok (Cell.ow _, restD env (env.set i .no) [i]) = _
  have : restD env (env.set i .no) [i] = env := by
    show (match env[i]? with | some c => (env.set i .no).set i c | none => env.set i .no) = env
    rw [hc]
    show (env.set i .no).set i c = env
    rw [List.set_set]
    exact List.ext_getElem? fun j => by
      by_cases h : i = j
      · subst h; rw [List.getElem?_set_self ilt, hc]
      · rw [List.getElem?_set_ne h]
  rw [this]; rfl
theorem pyDs_sgn : ∀ l : List Nat, pyDs (l.map fun c => D.str (sgn c)) = some (l.map fun c => PyData.str (sgn c))
  | [] => rfl
  | c :: l => by
    show (match pyD (.str (sgn c)), pyDs (l.map fun c => D.str (sgn c)) with | some p, some q => some (p :: q) | _, _ => none) = _
    rw [pyDs_sgn l]; rfl
theorem canLay_sgn : ∀ l : List Nat, (∀ c ∈ l, c < 127) → PyData.canLayAll0 (l.map fun c => PyData.str (sgn c)) = true
  | [], _ => rfl
  | c :: l, h => by
    have ih := canLay_sgn l fun x hx => h x (List.mem_cons_of_mem _ hx)
    have h0 := h c (by simp)
    show (((sgn c).cps.all (· < 0x110000)) && PyData.canLayAll0 (l.map fun c => PyData.str (sgn c))) = true
    rw [ih, Bool.and_true]
    show (#[c] : Array Nat).all (fun x => decide (x < 0x110000)) = true
    simp; omega
theorem depth_sgn : ∀ l : List Nat, PyData.depthAll (l.map fun c => PyData.str (sgn c)) = 0
  | [] => rfl
  | c :: l => by
    show max (PyData.depth (.str (sgn c))) (PyData.depthAll (l.map fun c => PyData.str (sgn c))) = 0
    rw [depth_sgn l]; rfl
theorem hNeD_sgn (l : List Nat) (h : ∀ c ∈ l, c < 127) : hNeD (.lst (l.map fun c => D.str (sgn c))) (.lst []) = some (!decide (l = [])) := by
  have p1 : pyD (.lst (l.map fun c => D.str (sgn c))) = some (.list (l.map fun c => PyData.str (sgn c))) := by
    show (pyDs _).map _ = _
    rw [pyDs_sgn]; rfl
  have p2 : pyD (.lst []) = some (.list []) := rfl
  have s1 : SeqAt.shaped (.list (l.map fun c => PyData.str (sgn c))) = true := by
    show (PyData.canLayAll0 _ && decide (PyData.depthAll _ + 1 ≤ 64)) = true
    rw [canLay_sgn l h, depth_sgn]; rfl
  have s2 : SeqAt.shaped (.list []) = true := rfl
  unfold hNeD hEqD
  rw [p1, p2]
  simp only
  rw [if_pos ⟨s1, s2⟩]
  cases l with
  | nil => rfl
  | cons c l => rfl
theorem fig_of_filter (l : List Nat) : (l.filter fun c => !decide (48 ≤ c ∧ c ≤ 57)) = [] ↔ l.all (fun c => decide (48 ≤ c ∧ c ≤ 57)) = true := by
  rw [List.filter_eq_nil_iff, List.all_eq_true]
  constructor
  · intro h c hc
    have := h c hc
    simpa using this
  · intro h c hc
    have := h c hc
    simpa using this
theorem e_is_figures {w : Str} (h : OkWd w) : F__law_is_figures [.str w] = .ok (.fz (.bl (isFig w))) := by
  have L3 : w.length = w.cps.toList.length := by rw [Array.length_toList]; rfl
  have ew : w = tx w.cps.toList := (tx_eta w).symm
  have hl := hLenS (z := w) (by have := h.small; omega)
  have notIn : ∀ c, hNotInQ (.str (sgn c)) (.str "0123456789") = some (!decide (48 ≤ c ∧ c ≤ 57)) := notIn_fig
  have low : ∀ c ∈ w.cps.toList, c < 127 := fun c hc => (AN_low c (h.sub c hc)).2
  have we : (w = "") = (w.cps.toList = []) := by
    apply propext
    constructor
    · intro z; rw [z]; rfl
    · intro z; rw [ew, z]; rfl
  unfold F__law_is_figures
  generalize w.cps.toList = l at *
  let pr : D → Bool := fun d => match d with
    | .str z => match z.cps.toList with
      | [c] => !decide (48 ≤ c ∧ c ≤ 57)
      | _ => false
    | _ => false
  have prs : ∀ c, pr (.str (sgn c)) = !decide (48 ≤ c ∧ c ≤ 57) := fun c => rfl
  have cm := comp_filt (i := 1) (xs := l.map fun c => .str (sgn c)) (t := mOpt2 hNotInQ (gVar 1) (gC (.str "0123456789"))) (f := gVar 1) (r := mOpt hSgn (gVar 0)) (env0 := [.fz (.str w), .no]) (env := [.fz (.str w), .no]) (c := .no) pr id (by
      have : hSgn (.str w) = some (l.map fun c => .str (sgn c)) := by rw [ew]; show some ((tx l).cps.toList.map _) = _; rw [tx_list]
      simp -implicitDefEqProofs [this]) rfl (.inl rfl) (by rw [List.length_map, ← L3, sizeLine_eq]; have := h.small; omega) (by
      intro x hx
      obtain ⟨c, hc, rfl⟩ := List.mem_map.mp hx
      have := notIn c
      rw [prs]
      simp -implicitDefEqProofs [this]) (by
      intro x hx _
      obtain ⟨c, hc, rfl⟩ := List.mem_map.mp hx
      simp -implicitDefEqProofs)
  have cf : ((l.map fun c => D.str (sgn c)).filter pr).map id = (l.filter fun c => !decide (48 ≤ c ∧ c ≤ 57)).map fun c => D.str (sgn c) := by
    rw [List.map_id, List.filter_map]; rfl
  rw [cf] at cm
  have hne := hNeD_sgn (l.filter fun c => !decide (48 ≤ c ∧ c ≤ 57)) fun c hc => low c (List.mem_filter.mp hc).1
  have hx0 : ∀ a r, l = a :: r → hIx (.str w) (.int 0) = some (.str (sgn a)) := fun a r e => by
    rw [ew, e]
    exact hIx_tx rfl (by rw [← e, ← L3]; have := h.small; omega) rfl
  have s0 : ∀ a : Nat, (sgn a = "0") = (a = 48) := fun a => by
    apply propext
    exact ⟨fun h => by have := tx_inj (a := [a]) (b := [48]) h; simpa using this, fun h => by rw [h]; rfl⟩
  generalize hX : (l.filter fun c => !decide (48 ≤ c ∧ c ≤ 57)).map (fun c => D.str (sgn c)) = X at cm hne
  have test : (mOr (mOpt2 hEqS (gVar 0) (gC (.str ""))) (mOr (mOpt2 hGt (mOpt hLen (aCons (gVar 0) aNil)) (gC (.int 2))) (mOpt2 hNeD (mOpt Cell.toD (gComp (mOpt hSgn (gVar 0)) (gtName 1) (mOpt2 hNotInQ (gVar 1) (gC (.str "0123456789"))) (gVar 1) [1])) (mOpt Cell.toD (mMap Cell.ow (mOpt okLen aNil)))))) [.fz (.str w), .no]
      = .ok (decide (l = [] ∨ 2 < l.length ∨ ¬ (l.filter fun c => !decide (48 ≤ c ∧ c ≤ 57)) = []), [.fz (.str w), .no]) := by
    rw [ev_mOr, ev_mOpt2, ev_gVar0_fz]
    simp -implicitDefEqProofs only [Res.bind_ok, ev_gC, ev_hEqT, optR_some, Res.map_ok, we]
    by_cases z1 : l = []
    · simp -implicitDefEqProofs [z1]
    · rw [if_neg (by simpa using z1), ev_mOr, ev_mOpt2, ev_mOpt, ev_aCons, ev_gVar0_fz]
      simp -implicitDefEqProofs only [Res.bind_ok, ev_aNil, Res.map_ok, hl, optR_some, ev_gC, ev_hGt]
      have z2' : ((2 : Int) < (w.length : Int)) = (2 < l.length) := by apply propext; omega
      by_cases z2 : 2 < l.length
      · simp -implicitDefEqProofs [z2', z2, z1]
      · rw [if_neg (by simpa [z2'] using z2), ev_mOpt2, ev_mOpt, cm]
        have e : decide (l = [] ∨ 2 < l.length ∨ ¬ (l.filter fun c => !decide (48 ≤ c ∧ c ≤ 57)) = []) = !decide ((l.filter fun c => !decide (48 ≤ c ∧ c ≤ 57)) = []) := by
          generalize (l.filter fun c => !decide (48 ≤ c ∧ c ≤ 57)) = F
          by_cases hF : F = [] <;> simp [z1, z2, hF]
        rw [e]
        generalize decide ((l.filter fun c => !decide (48 ≤ c ∧ c ≤ 57)) = []) = bb at hne
        simp -implicitDefEqProofs [hne]
  by_cases hA : l = [] ∨ 2 < l.length ∨ ¬ (l.filter fun c => !decide (48 ≤ c ∧ c ≤ 57)) = []
  · have hf : isFig w = false := by
      unfold isFig
      rw [ew]
      simp only [tx_list, tx_len]
      rcases hA with z | z | z
      · simp [z]
      · rw [Bool.and_eq_false_iff]; left; rw [Bool.and_eq_false_iff]; left; rw [Bool.and_eq_false_iff]; right; simpa using z
      · rw [Bool.and_eq_false_iff]; right
        cases hq : l.all (fun c => decide (48 ≤ c ∧ c ≤ 57)) with
        | false => rfl
        | true => exact (z ((fig_of_filter l).mpr hq)).elim
    rw [hf]
    refine Ret.runs rfl (Ret.first ?_)
    unfold Ret
    show ∃ e, sIf _ _ _ [.fz (.str w), .no] = _
    rw [ev_sIf, test]
    simp -implicitDefEqProofs only [Res.bind_ok]
    rw [if_pos (decide_eq_true hA)]
    simp -implicitDefEqProofs
  · have hA1 : l ≠ [] := fun z => hA (.inl z)
    have hA2 : ¬ 2 < l.length := fun z => hA (.inr (.inl z))
    have hA3 : (l.filter fun c => !decide (48 ≤ c ∧ c ≤ 57)) = [] := by
      cases hq : decide ((l.filter fun c => !decide (48 ≤ c ∧ c ≤ 57)) = []) with
      | true => exact of_decide_eq_true hq
      | false => exact (hA (.inr (.inr (of_decide_eq_false hq)))).elim
    have hA4 := (fig_of_filter l).mp hA3
    obtain ⟨a, r, hl0⟩ := List.exists_cons_of_ne_nil hA1
    have hx := hx0 a r hl0
    refine Ret.runs rfl (Ret.sq [.fz (.str w), .no] ?_ (Ret.ret ?_))
    · show sIf _ _ _ [.fz (.str w), .no] = _
      rw [ev_sIf, test]
      simp -implicitDefEqProofs only [Res.bind_ok]
      rw [if_neg (by simpa using hA)]; rfl
    · have hf : isFig w = (decide (w = "0") || !decide (a = 48)) := by
        have w0 : (w = "0") = (l = [48]) := by
          apply propext
          rw [ew]
          exact ⟨fun z => tx_inj z, fun z => by rw [z]; rfl⟩
        unfold isFig
        rw [show w.cps.toList = l from by rw [ew, tx_list], hA4, L3, hl0]
        simp only [w0, hl0]
        rw [hl0] at hA2
        match r, hA2 with
        | [], _ => simp
        | [b], _ => simp
        | b :: c :: r', h => simp at h
      rw [hf]
      by_cases z : w = "0"
      · simp -implicitDefEqProofs [z]
      · simp -implicitDefEqProofs [z, hx, s0]
end DL
namespace DL
open PySem PySem.Spec PyProof.Rows L2
theorem set_no {env : DEnv} {i : Nat} {c : Cell} (h : env[i]? = some c) : env.set i c = env := by
  have ilt : i < env.length := (List.getElem?_eq_some_iff.mp h).1
  exact List.ext_getElem? fun j => by
    by_cases hj : i = j
    · subst hj; rw [List.getElem?_set_self ilt, h]
    · rw [List.getElem?_set_ne hj]
theorem comp_pair {i j : Nat} {ps : List (D × D)} {f : M D} {r : M (List D)} {env0 env : DEnv} (y : D × D → D) (hij : i ≠ j) (hr : r env0 = .ok (ps.map fun p => .tup [p.1, p.2], env)) (hi : env[i]? = some .no) (hj : env[j]? = some .no) (hl : ps.length ≤ sizeLine)
    (hf : ∀ p ∈ ps, f ((env.set i (.fz p.1)).set j (.fz p.2)) = .ok (y p, (env.set i (.fz p.1)).set j (.fz p.2))) :
    gComp r (gtTup 2 (gtCons (gtName i) (gtCons (gtName j) gtNil))) mYes f [i, j] env0 = .ok (.ow (ps.map y), env) := by
  have ilt : i < env.length := (List.getElem?_eq_some_iff.mp hi).1
  have jlt : j < env.length := (List.getElem?_eq_some_iff.mp hj).1
  have wp : ∀ a b : D, wipeD ((env.set i (.fz a)).set j (.fz b)) [i, j] = env := by
    intro a b
    show ((((env.set i (.fz a)).set j (.fz b)).set j .no).set i .no) = env
    rw [List.set_set, List.set_comm _ _ hij, List.set_set, set_no hj, set_no hi]
  obtain ⟨e', he, q⟩ := compL_run (g := gtTup 2 (gtCons (gtName i) (gtCons (gtName j) gtNil))) (t := mYes) (f := f) (own := [i, j]) (fun e => e = env) (fun _ => true) (fun d => match d with | .tup [a, b] => y (a, b) | d => d) (ps.map fun p => .tup [p.1, p.2]) [] env rfl (by simpa using hl) (by
    intro x hx e he
    subst he
    obtain ⟨p, hp, rfl⟩ := List.mem_map.mp hx
    refine ⟨(e.set i (.fz p.1)).set j (.fz p.2), _, ?_, rfl, (fun z => by cases z), fun _ => ⟨_, hf p hp, wp _ _⟩⟩
    show gtCons (gtName i) (gtCons (gtName j) gtNil) [p.1, p.2] e = _
    rw [ev_gtCons, ev_gtName, setC_Pl hi (.inl rfl)]
    simp -implicitDefEqProofs only [Res.bind_ok, ev_sThen_nx]
    rw [ev_gtCons, ev_gtName, setC_Pl (c0 := .no) (by rw [List.getElem?_set_ne hij]; exact hj) (.inl rfl)]
    rfl)
  subst he
  rw [ev_gComp, hr]
  have w0 : wipeD e' [i, j] = e' := by
    show ((e'.set j .no).set i .no) = e'
    rw [set_no hj, set_no hi]
  show (if [i, j].all (fun i => plainC e'[i]?) = true then (compL _ mYes f [i, j] _ [] (wipeD e' [i, j])).map _ else _) = _
  rw [if_pos (by simp [hi, hj, plainC]), w0, q]
  show Res.ok (Cell.ow _, restD e' e' [i, j]) = _
  have : restD e' e' [i, j] = e' := by
    show (match e'[i]? with | some c => (match e'[j]? with | some c => e'.set j c | none => e').set i c | none => (match e'[j]? with | some c => e'.set j c | none => e')) = e'
    rw [hi, hj]
    show (e'.set j .no).set i .no = e'
    rw [set_no hj, set_no hi]
  rw [this, List.filter_eq_self.mpr (fun _ _ => rfl), List.nil_append, List.map_map]
  rfl
theorem all_rises : ∀ l : List Nat, ((l.zip (l.drop 1)).all fun p => decide (p.1 < p.2)) = rises l
  | [] => rfl
  | [a] => rfl
  | a :: b :: r => by
    have ih := all_rises (b :: r)
    show (decide (a < b) && (((b :: r).zip ((b :: r).drop 1)).all fun p => decide (p.1 < p.2))) = _
    rw [ih, rises]
theorem e_rises {l : List Nat} (hl : l.length ≤ 1000) : F__law_rises [.str (tx l)] = .ok (.fz (.bl (rises l))) := by
  have cs : cutS (tx l) (some 1) none = tx (l.drop 1) := by
    rw [cutS_tx, sIx_pos (by decide), sIx_none]
    congr 1
    rw [List.take_of_length_le (by rw [List.length_drop]; have : (1 : Int).toNat = 1 := rfl; omega)]
    cases l with
    | nil => rfl
    | cons a r => simp
  have ss := ev_sliS (z := tx l) (l := some 1) (h := none) (small_len (by rw [tx_len]; omega))
  have hz : hZipS [.str (tx l), .str (tx (l.drop 1))] = some (((l.zip (l.drop 1)).map fun p => (D.str (sgn p.1), D.str (sgn p.2))).map fun p => .tup [p.1, p.2]) := by
    show some (zipT _ _) = _
    unfold zipT
    rw [tx_list, tx_list, List.map_map]; rfl
  have cm := comp_pair (i := 1) (j := 2) (ps := (l.zip (l.drop 1)).map fun p => (D.str (sgn p.1), D.str (sgn p.2))) (f := mMap D.bl (mOpt2 hLt (gVar 1) (gVar 2))) (r := mOpt hZipS (aCons (gVar 0) (aCons (gSlS (gVar 0) (mPart (some (gC (.int 1)))) (mPart none)) aNil))) (env0 := [.fz (.str (tx l)), .no, .no]) (env := [.fz (.str (tx l)), .no, .no])
    (fun p => match hLt p.1 p.2 with | some b => .bl b | none => .non) (by decide) (by simp -implicitDefEqProofs only [ev_mOpt, ev_aCons, ev_gVar0_fz, Res.bind_ok, ev_gSlS, ev_mPart, ev_mPartN, ev_gC, ev_prtI, optR_some, Res.map_ok, ss, cs, ev_aNil, hz]) rfl rfl (by rw [List.length_map, List.length_zip, sizeLine_eq]; omega) (by
      intro p hp
      obtain ⟨q, hq, rfl⟩ := List.mem_map.mp hp
      have := sgn_lt q.1 q.2
      simp -implicitDefEqProofs only [ev_mMap, ev_mOpt2]
      simp -implicitDefEqProofs [this])
  have em : (((l.zip (l.drop 1)).map fun p => (D.str (sgn p.1), D.str (sgn p.2))).map fun p => match hLt p.1 p.2 with | some b => D.bl b | none => .non) = (((l.zip (l.drop 1)).map fun p => decide (p.1 < p.2)).map D.bl) := by
    rw [List.map_map, List.map_map]
    apply List.map_congr_left
    intro p _
    show (match hLt (.str (sgn p.1)) (.str (sgn p.2)) with | some b => D.bl b | none => .non) = _
    rw [sgn_lt]; rfl
  rw [em] at cm
  have ha : hAll [.lst (((l.zip (l.drop 1)).map fun p => decide (p.1 < p.2)).map D.bl)] = some (.bl (rises l)) := by
    show (blsOf _).map _ = _
    rw [blsOf_map]
    show some (D.bl _) = _
    rw [List.all_map, ← all_rises]; rfl
  generalize (((l.zip (l.drop 1)).map fun p => decide (p.1 < p.2)).map D.bl) = X at cm ha
  unfold F__law_rises
  refine Ret.runs rfl (Ret.ret ?_)
  show ∃ e, mMap Cell.fz (mOpt hAll (aCons (mOpt Cell.toD (gComp _ _ _ _ _)) aNil)) [.fz (.str (tx l)), .no, .no] = _
  rw [ev_mMap, ev_mOpt, ev_aCons, ev_mOpt, cm]
  simp -implicitDefEqProofs [ha]
theorem keys_len (kd : Str) : (keysOf kd).length ≤ 9 := by unfold keysOf; split <;> (try split) <;> simp
theorem e_keys (kd : Str) (h : kd = "number" ∨ kd = "word" ∨ kd = "choice") : F__law_keys [.str kd] = .ok (.ow ((keysOf kd).map D.str)) := by
  have hc : ∀ xs : List D, xs.length ≤ 10 → hCat (.lst xs) (.lst [.str "width", .str "fill", .str "side", .str "strict"]) = some (xs ++ [.str "width", .str "fill", .str "side", .str "strict"]) := fun xs hx => ev_hCat (by rw [sizeLine_eq]; simp only [List.length_cons, List.length_nil]; omega)
  unfold F__law_keys keysOf
  rcases h with rfl | rfl | rfl
  · have := hc [.str "base", .str "sign", .str "groups", .str "point", .str "way"] (by simp)
    refine Ret.runs rfl (Ret.sq _ (by simp -implicitDefEqProofs; rfl) (Ret.sq _ (by simp -implicitDefEqProofs; rfl) (Ret.sq _ (by simp -implicitDefEqProofs; rfl) (Ret.ret ?_))))
    simp -implicitDefEqProofs [this]
  · have := hc [.str "blank"] (by simp)
    refine Ret.runs rfl (Ret.sq _ (by simp -implicitDefEqProofs; rfl) (Ret.sq _ (by simp -implicitDefEqProofs; rfl) (Ret.sq _ (by simp -implicitDefEqProofs; rfl) (Ret.ret ?_))))
    simp -implicitDefEqProofs [this]
  · have := hc [] (by simp)
    refine Ret.runs rfl (Ret.sq _ (by simp -implicitDefEqProofs; rfl) (Ret.sq _ (by simp -implicitDefEqProofs; rfl) (Ret.sq _ (by simp -implicitDefEqProofs; rfl) (Ret.ret ?_))))
    simp -implicitDefEqProofs [this]
noncomputable def dicK : List Key := [.inr "style", .inr "way", .inr "side"]
noncomputable def dicL (kd : Str) : List D := [.lst (stylesL.map D.str), .lst (waysL.map D.str), .lst ((if kd = "number" then sides4 else sides3).map D.str)]
theorem e_lists (kd : Str) : F__law_lists [.str kd] = .ok (.dk dicK (dicL kd)) := by
  have c1 : cutD [D.str "inside"] none (some 1) = [D.str "inside"] := by simp [cutD, sIx_none, sIx_pos]
  have c0 : cutD [D.str "inside"] none (some 0) = [] := by simp [cutD, sIx_none, sIx_pos]
  have hc1 := ev_hCat (a := [.str "left", .str "right", .str "middle"]) (b := [.str "inside"]) (by rw [sizeLine_eq]; simp)
  have hc0 := ev_hCat (a := [.str "left", .str "right", .str "middle"]) (b := []) (by rw [sizeLine_eq]; simp)
  unfold F__law_lists dicL
  refine Ret.runs rfl (Ret.sq [.fz (.str kd), .ow ((if kd = "number" then sides4 else sides3).map D.str), .no] ?_ (Ret.sq [.fz (.str kd), .ow ((if kd = "number" then sides4 else sides3).map D.str), .ow (waysL.map D.str)] ?_ (Ret.ret ?_)))
  · by_cases hk : kd = "number"
    · simp -implicitDefEqProofs [hk, c1, hc1, sides4]
    · simp -implicitDefEqProofs [hk, c0, hc0, sides3]
  · simp -implicitDefEqProofs [waysL]
  · simp -implicitDefEqProofs [gDisp, dispL, stylesL, dicK]
end DL
namespace DL
open PySem PySem.Spec PyProof.Rows L2
theorem flat_nat {w : Str} : w.length = w.cps.toList.length := by rw [Array.length_toList]; rfl
theorem sgnN_some (w : Str) : (sgnN w).isSome = (decide (w.length = 1) || decide (w = "blank")) := by
  unfold sgnN
  by_cases h : w = "blank"
  · rw [if_pos h]; simp [h]
  · rw [if_neg h]
    have L := flat_nat (w := w)
    generalize w.cps.toList = l at L
    match l, L with
    | [], e => simp at e; simp [e, h]
    | [c], e => simp at e; simp [e]
    | a :: b :: r, e => simp at e; simp [h]; omega
theorem take_one {w : Str} (hw : w.length ≤ 1000) : cutS w none (some 1) = tx (w.cps.toList.take 1) := by
  have ew : w = tx w.cps.toList := (tx_eta w).symm
  generalize w.cps.toList = l at ew
  rw [ew, cutS_tx, sIx_none, sIx_pos (by decide)]
  simp only [List.drop_zero, Nat.sub_zero]
  congr 1
  rw [List.take_eq_take_iff]; have : (1 : Int).toNat = 1 := rfl; omega
theorem drop_one' {w : Str} (hw : w.length ≤ 1000) : cutS w (some 1) none = tx (w.cps.toList.drop 1) := by
  have ew : w = tx w.cps.toList := (tx_eta w).symm
  generalize w.cps.toList = l at ew
  rw [ew, cutS_tx, sIx_pos (by decide), sIx_none]
  congr 1
  rw [List.take_of_length_le (by rw [List.length_drop]; have : (1 : Int).toNat = 1 := rfl; omega)]
  cases l with
  | nil => rfl
  | cons a r => simp
theorem cutD_all {ds : List D} {a b : Nat} (hb : b ≤ ds.length) : cutD ds (some (a : Int)) (some (b : Int)) = (ds.take b).drop a := by
  unfold cutD
  rw [sIx_pos (by omega), sIx_pos (by omega), List.drop_take]
  have e1 : min (b : Int).toNat ds.length = b := by omega
  have e2 : (a : Int).toNat = a := by omega
  rw [e1, e2]
  by_cases h : a ≤ ds.length
  · rw [Nat.min_eq_left h]
  · rw [Nat.min_eq_right (by omega), List.drop_of_length_le (Nat.le_refl _), List.drop_of_length_le (by omega)]; simp
theorem cutD_to {ds : List D} {b : Nat} (hb : b ≤ ds.length) : cutD ds none (some (b : Int)) = ds.take b := by
  unfold cutD
  rw [sIx_none, sIx_pos (by omega)]
  have e1 : min (b : Int).toNat ds.length = b := by omega
  rw [e1, List.drop_zero, Nat.sub_zero]
theorem cutD_from {ds : List D} {a : Nat} : cutD ds (some (a : Int)) none = ds.drop a := by
  unfold cutD
  rw [sIx_none, sIx_pos (by omega)]
  have e2 : (a : Int).toNat = a := by omega
  rw [e2]
  by_cases h : a ≤ ds.length
  · rw [Nat.min_eq_left h, List.take_of_length_le (by rw [List.length_drop]; omega)]
  · rw [Nat.min_eq_right (by omega), List.drop_of_length_le (Nat.le_refl _), List.drop_of_length_le (by omega)]; simp
/-- the index of a key -/
theorem ixV_idx {w : Str} : ∀ {ks : List Str}, w ∈ ks → ixV (.str w) (ks.map V.str) = some (idx ks w)
  | [], h => by cases h
  | k :: ks, h => by
    have e : eqV (.str k) (.str w) = decide (k = w) := rfl
    show (if eqV (.str k) (.str w) = true then some 0 else (ixV (.str w) (ks.map V.str)).map (· + 1)) = _
    rw [e, idx]
    by_cases hk : k = w
    · rw [if_pos (decide_eq_true hk), if_pos hk]
    · rw [if_neg (by simpa using hk), if_neg hk, ixV_idx (by rcases List.mem_cons.mp h with z | z; exact (hk z.symm).elim; exact z)]; rfl
theorem hIndex_idx {w : Str} {ks : List Str} (h : w ∈ ks) : hIndex (.lst (ks.map D.str)) [.str w] = some (.int (idx ks w : Nat)) := by
  show (match flatD (.str w), flatDs (ks.map D.str) with | some v, some vs => (ixV v vs).map fun j => D.int (j : Nat) | _, _ => none) = _
  rw [flatDs_strs]
  show (ixV (.str w) (ks.map V.str)).map _ = _
  rw [ixV_idx h]; rfl
/-- the greatest of what was told -/
theorem most_app (ns : List Int) (x : Int) : mostI (ns ++ [x]) = some (ns.foldr max x) := by
  have this : ∀ (ns : List Int) (a x : Int), (ns ++ [x]).foldl (fun a b => if a < b then b else a) a = max a (ns.foldr max x) := by
    intro ns
    induction ns with
    | nil => intro a x; simp only [List.nil_append, List.foldl_cons, List.foldl_nil, List.foldr_nil]; split <;> omega
    | cons n ns ih => intro a x; simp only [List.cons_append, List.foldl_cons, List.foldr_cons]; rw [ih]; split <;> omega
  cases ns with
  | nil => rfl
  | cons n ns =>
    show some ((ns ++ [x]).foldl _ n) = _
    rw [this]; rfl
noncomputable abbrev isKey (r : Row) : Bool := decide (r.role = ("key" : Str))
theorem max_told (ks : List Str) : ∀ pre : List Row, (((pre.filter isKey).map fun r => ((idx ks r.w : Nat) : Int))).foldr max (-1) + 1 = (toldN ks pre : Int)
  | [] => rfl
  | r :: pre => by
    have ih := max_told ks pre
    rw [toldN]
    by_cases h : r.role = "key"
    · rw [List.filter_cons_of_pos (by simpa using h), List.map_cons, List.foldr_cons, if_pos h]; omega
    · rw [List.filter_cons_of_neg (by simpa using h), if_neg h, ih]; omega
theorem find_some (w : Str) : ∀ ps : List (Str × Str), ((ps.find? fun p => p.1 = w).map (·.2)).isSome = decide (w ∈ ps.map (·.1))
  | [] => rfl
  | p :: ps => by
    by_cases h : p.1 = w
    · rw [List.find?_cons_of_pos (by simpa using h)]; simp [h]
    · rw [List.find?_cons_of_neg (by simpa using h), find_some w ps]
      simp [Ne.symm h]
theorem sgsN_isSome (w : Str) : (sgsN w).isSome = if w ∈ setsL.map (·.1) then true else decide (2 ≤ w.length) && (decide (w.cps.toList.head? = some 61) && rises (w.cps.toList.drop 1)) := by
  have hs : (setOf w).isSome = decide (w ∈ setsL.map (·.1)) := find_some w setsL
  unfold sgsN
  cases hq : setOf w with
  | some s =>
    rw [hq] at hs
    rw [if_pos (of_decide_eq_true hs.symm)]; rfl
  | none =>
    rw [hq] at hs
    rw [if_neg (of_decide_eq_false hs.symm)]
    simp only
    by_cases h : 2 ≤ w.length ∧ w.cps.toList.head? = some 61 ∧ rises (w.cps.toList.drop 1) = true
    · rw [if_pos h, decide_eq_true h.1, decide_eq_true h.2.1, h.2.2]; rfl
    · rw [if_neg h]
      simp only [Option.isSome_none]
      cases h1 : decide (2 ≤ w.length) with
      | false => rfl
      | true =>
        cases h2 : decide (w.cps.toList.head? = some 61) with
        | false => rfl
        | true =>
          cases h3 : rises (w.cps.toList.drop 1) with
          | false => rfl
          | true => exact (h ⟨of_decide_eq_true h1, of_decide_eq_true h2, h3⟩).elim
structure RoleOk (r : Row) : Prop where
  ok : r.role = "kind" ∨ r.role = "number" ∨ r.role = "sign" ∨ r.role = "signs" ∨ r.role = "name" ∨ r.role = "key" ∨ r.role = "style" ∨ r.role = "way" ∨ r.role = "side"
noncomputable def mayE (rows : List Row) (at_ : Nat) (w kd : Str) (r : Row) : DEnv :=
  [.fz (.lst (rowsD rows)), .fz (.int at_), .fz (.str w), .fz (.str kd), .fz (.str r.w), .fz (.str r.role), .fz (.int r.lo), .fz (.int r.hi), .no, .no, .no, .no, .no]
theorem e_may {kd : Str} (hkd : kd = "number" ∨ kd = "word" ∨ kd = "choice") {rows : List Row} (h0 : rows[0]? = some ⟨kd, "kind", 0, 0⟩) (hlen : rows.length ≤ 100) {at_ : Nat} (hat : at_ ≤ rows.length) {w : Str} (hw : OkWd w)
    (hk : ∀ r ∈ rows.take at_, r.role = "key" → r.w ∈ keysOf kd) (hr : RoleOk (rowAt (rows.drop at_))) : F__law_may_stand [.lst (rowsD rows), .int at_, .str w] = .ok (.fz (.bl (mayR kd (rows.take at_) (rowAt (rows.drop at_)) w))) := by
  have hws := hw.small
  have hl := hLenS (z := w) (by omega)
  have fE : ∀ x : Str, (mOpt2 hEqS (gVar 5) (gC (.str x))) (mayE rows at_ w kd (rowAt (rows.drop at_))) = .ok (decide ((rowAt (rows.drop at_)).role = x), mayE rows at_ w kd (rowAt (rows.drop at_))) := by
    intro x
    simp -implicitDefEqProofs [mayE]
  have skip : ∀ {x : Str} {T : SM}, (rowAt (rows.drop at_)).role ≠ x → sIf (mOpt2 hEqS (gVar 5) (gC (.str x))) T sNil (mayE rows at_ w kd (rowAt (rows.drop at_))) = .ok (.nx (mayE rows at_ w kd (rowAt (rows.drop at_)))) := by
    intro x T h
    rw [ev_sIf, fE]
    simp -implicitDefEqProofs only [Res.bind_ok]
    rw [if_neg (by simpa using h)]; rfl
  have hit : ∀ {x : Str} {T : SM} {c : Cell}, (rowAt (rows.drop at_)).role = x → Ret T (mayE rows at_ w kd (rowAt (rows.drop at_))) c → Ret (sIf (mOpt2 hEqS (gVar 5) (gC (.str x))) T sNil) (mayE rows at_ w kd (rowAt (rows.drop at_))) c := by
    intro x T c h hT
    obtain ⟨e, hT⟩ := hT
    refine ⟨e, ?_⟩
    rw [ev_sIf, fE]
    simp -implicitDefEqProofs only [Res.bind_ok]
    rw [if_pos (decide_eq_true h)]; exact hT
  have a0 : L2.atI (rowsD rows) 0 = some (Row.d ⟨kd, "kind", 0, 0⟩) := by
    have := atI_nat (xs := rowsD rows) (j := 0)
    rw [show ((0 : Nat) : Int) = 0 from rfl] at this
    rw [this, List.getElem?_map, h0]; rfl
  have hc := ev_hCat (a := rowsD rows) (b := [.tup [.str "", .str "key", .int 0, .int 0]]) (by rw [List.length_map, sizeLine_eq]; simp only [List.length_cons, List.length_nil]; omega)
  have aA : L2.atI (rowsD rows ++ [.tup [.str "", .str "key", .int 0, .int 0]]) (at_ : Int) = some (Row.d (rowAt (rows.drop at_))) := by
    rw [atI_nat]
    unfold rowAt
    by_cases h : at_ < rows.length
    · rw [List.getElem?_append_left (by rw [List.length_map]; exact h), List.getElem?_map, List.getElem?_eq_getElem h, List.drop_eq_getElem_cons h]; rfl
    · have : at_ = rows.length := by omega
      subst this
      rw [List.getElem?_append_right (by rw [List.length_map]; exact Nat.le_refl _), List.length_map, Nat.sub_self, List.drop_length]; rfl
  unfold F__law_may_stand
  refine Ret.runs rfl ?_
  refine Ret.sq [.fz (.lst (rowsD rows)), .fz (.int at_), .fz (.str w), .fz (.str kd), .no, .no, .no, .no, .no, .no, .no, .no, .no] ?_ ?_
  · simp only [Row.d] at a0
    generalize rowsD rows = R at a0 ⊢
    simp -implicitDefEqProofs [gIxN, cLst, hLst, a0]
  refine Ret.sq (mayE rows at_ w kd (rowAt (rows.drop at_))) ?_ ?_
  · unfold mayE
    generalize rowAt (rows.drop at_) = r at aA ⊢
    simp only [Row.d] at aA
    generalize rowsD rows = R at hc aA ⊢
    simp -implicitDefEqProofs [hc, aA]
  generalize hrr : rowAt (rows.drop at_) = r at *
  rcases hr.ok with h | h | h | h | h | h | h | h | h
  · -- kind
    refine Ret.first (hit h (Ret.ret ?_))
    have q := hInQ_tup w ["number", "word", "choice"]
    simp only [List.map_cons, List.map_nil] at q
    have e : mayR kd (rows.take at_) r w = decide (w ∈ (["number", "word", "choice"] : List Str)) := by unfold mayR; rw [if_pos h]
    rw [e]
    unfold mayE
    simp -implicitDefEqProofs only [ev_mMap, ev_mOpt2, ev_mOpt, ev_aCons, ev_aNil, ev_gC, ev_gVar_s, ev_gVar0_fz, List.getElem?_cons_succ, List.getElem?_cons_zero, Res.bind_ok, Res.map_ok, ev_okLen3, optR_some, q]
    exact ⟨_, rfl⟩
  · -- number
    refine Ret.sq _ (skip (by rw [h]; simp)) ?_
    refine Ret.first (hit h (Ret.ret ?_))
    have e : mayR kd (rows.take at_) r w = (wholeN r.lo r.hi w).isSome := by unfold mayR; rw [if_neg (by rw [h]; simp), if_pos h]
    rw [e]
    have fg := e_is_figures hw
    unfold mayE
    cases hf : isFig w with
    | false =>
      rw [hf] at fg
      have : wholeN r.lo r.hi w = none := by unfold wholeN; rw [hf, if_neg (by simp)]
      rw [this]
      simp -implicitDefEqProofs [fg]
    | true =>
      rw [hf] at fg
      obtain ⟨n, hn⟩ := fig_int w hf
      have hI : hIntS [.str w] = some (.int n) := by
        show (if w.length ≤ 640 then (PySem.intText? w).map D.int else none) = _
        rw [if_pos (by omega), hn]; rfl
      have : (wholeN r.lo r.hi w).isSome = (decide (r.lo ≤ n) && decide (n ≤ r.hi)) := by
        unfold wholeN; rw [if_pos hf, hn]
        simp only
        by_cases b1 : r.lo ≤ n <;> by_cases b2 : n ≤ r.hi <;> simp [b1, b2]
      rw [this]
      by_cases b1 : r.lo ≤ n
      · simp -implicitDefEqProofs [fg, hI, b1]
      · simp -implicitDefEqProofs [fg, hI, b1]
  · -- sign
    refine Ret.sq _ (skip (by rw [h]; simp)) ?_
    refine Ret.sq _ (skip (by rw [h]; simp)) ?_
    refine Ret.first (hit h (Ret.ret ?_))
    have e : mayR kd (rows.take at_) r w = (sgnN w).isSome := by unfold mayR; rw [if_neg (by rw [h]; simp), if_neg (by rw [h]; simp), if_pos h]
    rw [e, sgnN_some]
    have z1 : ((w.length : Int) = 1) = (w.length = 1) := by apply propext; omega
    unfold mayE
    by_cases b1 : w.length = 1
    · simp -implicitDefEqProofs [hl, b1]
    · simp -implicitDefEqProofs [hl, z1, b1]
  · -- signs
    refine Ret.sq _ (skip (by rw [h]; simp)) ?_
    refine Ret.sq _ (skip (by rw [h]; simp)) ?_
    refine Ret.sq _ (skip (by rw [h]; simp)) ?_
    refine Ret.first (hit h ?_)
    have e : mayR kd (rows.take at_) r w = (sgsN w).isSome := by unfold mayR; rw [if_neg (by rw [h]; simp), if_neg (by rw [h]; simp), if_neg (by rw [h]; simp), if_pos h]
    rw [e]
    have cm := comp_pair (i := 10) (j := 11) (ps := setsL.map fun p => (D.str p.1, D.str p.2)) (f := gVar 10) (r := mOpt hLst (mOpt Cell.toD (gCall F__law_sets aNil))) (env0 := mayE rows at_ w kd r) (env := mayE rows at_ w kd r) (fun p => p.1) (by decide) (by simp -implicitDefEqProofs [hLst, setsD, mayE]) rfl rfl (by rw [List.length_map, sizeLine_eq]; decide) (by
      intro p hp
      unfold mayE
      simp -implicitDefEqProofs)
    have em : ((setsL.map fun p => (D.str p.1, D.str p.2)).map fun p => p.1) = (setsL.map (·.1)).map D.str := by rw [List.map_map, List.map_map]; rfl
    rw [em] at cm
    have hq := hInQ_lst w (setsL.map (·.1))
    rw [sgsN_isSome]
    have hq' : (mOpt2 hInQ (gVar 2) (mOpt Cell.toD (gComp (mOpt hLst (mOpt Cell.toD (gCall F__law_sets aNil))) (gtTup 2 (gtCons (gtName 10) (gtCons (gtName 11) gtNil))) mYes (gVar 10) [10, 11]))) (mayE rows at_ w kd r) = .ok (decide (w ∈ setsL.map (·.1)), mayE rows at_ w kd r) := by
      have g2 : gVar 2 (mayE rows at_ w kd r) = .ok (.str w, mayE rows at_ w kd r) := rfl
      rw [ev_mOpt2, g2]
      simp -implicitDefEqProofs only [Res.bind_ok]
      rw [ev_mOpt, cm]
      simp -implicitDefEqProofs only [Res.bind_ok, ev_toD_ow, optR_some, Res.map_ok, hq]
    by_cases hm : w ∈ setsL.map (·.1)
    · rw [if_pos hm]
      refine Ret.first ?_
      unfold Ret
      rw [ev_sIf, hq']
      simp -implicitDefEqProofs only [Res.bind_ok]
      rw [if_pos (decide_eq_true hm)]
      simp -implicitDefEqProofs
    · rw [if_neg hm]
      refine Ret.sq (mayE rows at_ w kd r) ?_ (Ret.ret ?_)
      · rw [ev_sIf, hq']
        simp -implicitDefEqProofs only [Res.bind_ok]
        rw [if_neg (by simpa using hm)]; rfl
      · have s1 := ev_sliS (z := w) (l := none) (h := some 1) (small_len (by omega))
        have s2 := ev_sliS (z := w) (l := some 1) (h := none) (small_len (by omega))
        have t1 := take_one (w := w) (by omega)
        have t2 := drop_one' (w := w) (by omega)
        have rz := e_rises (l := w.cps.toList.drop 1) (by rw [List.length_drop, ← flat_nat]; omega)
        have hd1 : (tx (w.cps.toList.take 1) = "=") = (w.cps.toList.head? = some 61) := by
          apply propext
          have e61 : ("=" : Str) = tx [61] := rfl
          rw [e61]
          constructor
          · intro z
            have := tx_inj z
            cases hq : w.cps.toList with
            | nil => rw [hq] at this; simp at this
            | cons a r => rw [hq] at this; simp at this; rw [this]; rfl
          · intro z
            cases hq : w.cps.toList with
            | nil => rw [hq] at z; cases z
            | cons a r => rw [hq] at z; simp at z; rw [z]; simp
        have z1 : ((1 : Int) < (w.length : Int)) = (2 ≤ w.length) := by apply propext; omega
        unfold mayE
        by_cases b1 : w.cps.toList.head? = some 61
        · by_cases b2 : 2 ≤ w.length
          · simp -implicitDefEqProofs only [ev_mMap, ev_vAnd, ev_mOpt2, ev_gSlS, ev_mPart, ev_mPartN, ev_gC, ev_prtI, ev_gVar_s, ev_gVar0_fz, List.getElem?_cons_succ, List.getElem?_cons_zero, Res.bind_ok, Res.map_ok, optR_some, s1, t1, ev_hEqT, hd1, b1, decide_true, ev_hBl, if_true, ev_mOpt, ev_aCons, ev_aNil, hl, ev_hGt, z1, b2, ev_gCall, s2, t2, rz, ev_toD_fz]
            exact ⟨_, rfl⟩
          · simp -implicitDefEqProofs only [ev_mMap, ev_vAnd, ev_mOpt2, ev_gSlS, ev_mPart, ev_mPartN, ev_gC, ev_prtI, ev_gVar_s, ev_gVar0_fz, List.getElem?_cons_succ, List.getElem?_cons_zero, Res.bind_ok, Res.map_ok, optR_some, s1, t1, ev_hEqT, hd1, b1, decide_true, ev_hBl, if_true, ev_mOpt, ev_aCons, ev_aNil, hl, ev_hGt, z1, b2, decide_false]
            exact ⟨_, rfl⟩
        · simp -implicitDefEqProofs only [ev_mMap, ev_vAnd, ev_mOpt2, ev_gSlS, ev_mPart, ev_mPartN, ev_gC, ev_prtI, ev_gVar_s, ev_gVar0_fz, List.getElem?_cons_succ, List.getElem?_cons_zero, Res.bind_ok, Res.map_ok, optR_some, s1, t1, ev_hEqT, hd1, b1, decide_false, ev_hBl]
          refine ⟨mayE rows at_ w kd r, ?_⟩
          rw [if_neg (by simp)]
          cases decide (2 ≤ w.length) <;> rfl
  · -- name
    refine Ret.sq _ (skip (by rw [h]; simp)) ?_
    refine Ret.sq _ (skip (by rw [h]; simp)) ?_
    refine Ret.sq _ (skip (by rw [h]; simp)) ?_
    refine Ret.sq _ (skip (by rw [h]; simp)) ?_
    refine Ret.first (hit h (Ret.ret ?_))
    have e : mayR kd (rows.take at_) r w = (decide (1 ≤ w.length) && decide (w.length ≤ 12) && decide (w ∉ ((rows.take at_).drop 2).map Row.w)) := by unfold mayR; rw [if_neg (by rw [h]; simp), if_neg (by rw [h]; simp), if_neg (by rw [h]; simp), if_neg (by rw [h]; simp), if_pos h]
    rw [e]
    have cu := cutD_all (ds := rowsD rows) (a := 2) (b := at_) (by rw [List.length_map]; exact hat)
    rw [← List.map_take, ← List.map_drop] at cu
    have cm := comp_map2 (i := 12) (xs := rowsD ((rows.take at_).drop 2)) (f := mOpt2 hIx (gVar 12) (gC (.int 0))) (r := mOpt hLst (mOpt Cell.toD (gSlL (gVar 0) (mPart (some (gC (.int 2)))) (mPart (some (gVar 1)))))) (env0 := mayE rows at_ w kd r) (env := mayE rows at_ w kd r) (c := .no)
      (fun d => match d with | .tup (x :: _) => x | d => d) (by
        unfold mayE
        generalize rowsD rows = R at cu ⊢
        have cu' : cutD R (some 2) (some (at_ : Int)) = rowsD ((rows.take at_).drop 2) := cu
        generalize rowsD ((rows.take at_).drop 2) = Y at cu' ⊢
        simp -implicitDefEqProofs [cu', hLst]) rfl (.inl rfl) (by rw [List.length_map, List.length_drop, List.length_take, sizeLine_eq]; omega) (by
      intro x hx
      obtain ⟨r', hr', rfl⟩ := List.mem_map.mp hx
      unfold mayE
      simp -implicitDefEqProofs [Row.d])
    have em : (rowsD ((rows.take at_).drop 2)).map (fun d => match d with | .tup (x :: _) => x | d => d) = (((rows.take at_).drop 2).map Row.w).map D.str := by
      rw [List.map_map, List.map_map]; rfl
    rw [em] at cm
    have hq := hInQ_lst w (((rows.take at_).drop 2).map Row.w)
    have hn : hNotInQ (.str w) (.lst ((((rows.take at_).drop 2).map Row.w).map D.str)) = some (decide (w ∉ ((rows.take at_).drop 2).map Row.w)) := by
      unfold hNotInQ
      rw [hq]
      show some (!decide _) = _
      rw [decide_not]
    have q2 : (mOpt2 hNotInQ (gVar 2) (mOpt Cell.toD (gComp (mOpt hLst (mOpt Cell.toD (gSlL (gVar 0) (mPart (some (gC (.int 2)))) (mPart (some (gVar 1)))))) (gtName 12) mYes (mOpt2 hIx (gVar 12) (gC (.int 0))) [12]))) (mayE rows at_ w kd r) = .ok (decide (w ∉ ((rows.take at_).drop 2).map Row.w), mayE rows at_ w kd r) := by
      have g2 : gVar 2 (mayE rows at_ w kd r) = .ok (.str w, mayE rows at_ w kd r) := rfl
      rw [ev_mOpt2, g2]
      simp -implicitDefEqProofs only [Res.bind_ok]
      rw [ev_mOpt, cm]
      generalize (((rows.take at_).drop 2).map Row.w).map D.str = X at hn ⊢
      simp -implicitDefEqProofs only [Res.bind_ok, ev_toD_ow, optR_some, Res.map_ok, hn]
    have z1 : ((1 : Int) ≤ (w.length : Int)) = (1 ≤ w.length) := by apply propext; omega
    have z2 : ((w.length : Int) ≤ 12) = (w.length ≤ 12) := by apply propext; omega
    have g1 : (mMap D.bl (gChain hLe hLe (gC (.int 1)) (mOpt hLen (aCons (gVar 2) aNil)) (gC (.int 12)))) (mayE rows at_ w kd r) = .ok (.bl (decide (1 ≤ w.length) && decide (w.length ≤ 12)), mayE rows at_ w kd r) := by
      unfold mayE
      by_cases b1 : 1 ≤ w.length
      · simp -implicitDefEqProofs only [ev_mMap, ev_gChain, ev_gC, ev_mOpt, ev_aCons, ev_aNil, ev_gVar_s, ev_gVar0_fz, List.getElem?_cons_succ, List.getElem?_cons_zero, Res.bind_ok, Res.map_ok, optR_some, hl, ev_hLe, z1, z2, b1, decide_true, if_true, Bool.true_and]
      · simp -implicitDefEqProofs only [ev_mMap, ev_gChain, ev_gC, ev_mOpt, ev_aCons, ev_aNil, ev_gVar_s, ev_gVar0_fz, List.getElem?_cons_succ, List.getElem?_cons_zero, Res.bind_ok, Res.map_ok, optR_some, hl, ev_hLe, z1, z2, b1, decide_false, Bool.false_and]
        rw [if_neg (by simp)]; rfl
    rw [ev_mMap, ev_vAnd, g1]
    simp -implicitDefEqProofs only [Res.bind_ok, ev_hBl, optR_some]
    cases hb : (decide (1 ≤ w.length) && decide (w.length ≤ 12)) with
    | false => exact ⟨mayE rows at_ w kd r, rfl⟩
    | true =>
      rw [if_pos rfl, ev_mMap, q2]
      exact ⟨mayE rows at_ w kd r, rfl⟩
  · -- key
    refine Ret.sq _ (skip (by rw [h]; simp)) ?_
    refine Ret.sq _ (skip (by rw [h]; simp)) ?_
    refine Ret.sq _ (skip (by rw [h]; simp)) ?_
    refine Ret.sq _ (skip (by rw [h]; simp)) ?_
    refine Ret.sq _ (skip (by rw [h]; simp)) ?_
    refine Ret.first (hit h ?_)
    have e : mayR kd (rows.take at_) r w = decide (w ∈ (keysOf kd).drop (toldN (keysOf kd) (rows.take at_))) := by unfold mayR; rw [if_neg (by rw [h]; simp), if_neg (by rw [h]; simp), if_neg (by rw [h]; simp), if_neg (by rw [h]; simp), if_neg (by rw [h]; simp), if_pos h]
    rw [e]
    have ks := e_keys kd hkd
    have kl := keys_len kd
    let E8 : Cell → Cell → Cell → DEnv := fun c8 c9 c12 => [.fz (.lst (rowsD rows)), .fz (.int at_), .fz (.str w), .fz (.str kd), .fz (.str r.w), .fz (.str r.role), .fz (.int r.lo), .fz (.int r.hi), c8, c9, .no, .no, c12]
    let KL : Cell → Prop := fun c => c = .ow ((keysOf kd).map D.str) ∨ c = .fz (.lst ((keysOf kd).map D.str))
    refine Ret.sq (E8 (.ow ((keysOf kd).map D.str)) .no .no) ?_ ?_
    · simp only [E8]
      generalize (keysOf kd).map D.str = X at ks
      unfold mayE
      simp -implicitDefEqProofs [ks]
    have cu := cutD_to (ds := rowsD rows) (b := at_) (by rw [List.length_map]; exact hat)
    rw [← List.map_take] at cu
    let pr : D → Bool := fun d => match d with
      | .tup [_, .str z, _, _] => decide (z = ("key" : Str))
      | _ => false
    let yy : D → D := fun d => match d with
      | .tup [.str z, _, _, _] => .int (idx (keysOf kd) z : Nat)
      | d => d
    have comp : ∃ c8, KL c8 ∧ gComp (mOpt hLst (mOpt Cell.toD (gSlL (gVar 0) (mPart none) (mPart (some (gVar 1)))))) (gtName 12) (mOpt2 hEqS (mOpt2 hIx (gVar 12) (gC (.int 1))) (gC (.str "key"))) (gBM isLstD hIndex (gVar 8) (aCons (mOpt2 hIx (gVar 12) (gC (.int 0))) aNil)) [12] (E8 (.ow ((keysOf kd).map D.str)) .no .no)
        = .ok (.ow ((((rows.take at_).filter isKey).map fun r => ((idx (keysOf kd) r.w : Nat) : Int)).map D.int), E8 c8 .no .no) := by
      obtain ⟨e', ⟨c8, hc8, he⟩, q⟩ := compL_run (g := gtName 12) (t := (mOpt2 hEqS (mOpt2 hIx (gVar 12) (gC (.int 1))) (gC (.str "key")))) (f := gBM isLstD hIndex (gVar 8) (aCons (mOpt2 hIx (gVar 12) (gC (.int 0))) aNil)) (own := [12]) (fun e => ∃ c8, KL c8 ∧ e = E8 c8 .no .no) pr yy (rowsD (rows.take at_)) [] (E8 (.ow ((keysOf kd).map D.str)) .no .no) ⟨_, .inl rfl, rfl⟩ (by rw [List.length_map, List.length_take, sizeLine_eq]; simp only [List.length_nil]; omega) (by
        rintro x hx e ⟨c8, hc8, rfl⟩
        obtain ⟨r', hr', rfl⟩ := List.mem_map.mp hx
        refine ⟨E8 c8 .no (.fz r'.d), E8 c8 .no (.fz r'.d), rfl, ?_, fun _ => ⟨c8, hc8, rfl⟩, fun hp => ?_⟩
        · simp only [E8]
          rcases hc8 with rfl | rfl
          · simp -implicitDefEqProofs [Row.d, pr]
          · simp -implicitDefEqProofs [Row.d, pr]
        · have hk' : r'.role = "key" := of_decide_eq_true hp
          have hx := hIndex_idx (hk r' hr' hk')
          refine ⟨E8 (.fz (.lst ((keysOf kd).map D.str))) .no (.fz r'.d), ?_, _, .inr rfl, rfl⟩
          simp only [E8]
          rcases hc8 with rfl | rfl
          · simp -implicitDefEqProofs [ev_gBM, isLstD, Row.d, hx, yy]
          · simp -implicitDefEqProofs [ev_gBM, isLstD, Row.d, hx, yy])
      subst he
      refine ⟨c8, hc8, ?_⟩
      have hr0 : (mOpt hLst (mOpt Cell.toD (gSlL (gVar 0) (mPart none) (mPart (some (gVar 1)))))) (E8 (.ow ((keysOf kd).map D.str)) .no .no) = .ok (rowsD (rows.take at_), E8 (.ow ((keysOf kd).map D.str)) .no .no) := by
        simp only [E8]
        have cu' : cutD (rowsD rows) none (some (at_ : Int)) = rowsD (rows.take at_) := cu
        generalize rowsD (rows.take at_) = Y at cu' ⊢
        generalize rowsD rows = R at cu' ⊢
        simp -implicitDefEqProofs [cu', hLst]
      rw [ev_gComp, hr0]
      show (compL _ _ _ [12] (rowsD (rows.take at_)) [] (E8 (.ow ((keysOf kd).map D.str)) .no .no)).map _ = _
      rw [q]
      show Res.ok (Cell.ow _, E8 c8 .no .no) = _
      congr 3
      rw [List.nil_append, List.map_map, List.filter_map, List.map_map]
      rfl
    obtain ⟨c8, hc8, hcomp⟩ := comp
    generalize hT : ((rows.take at_).filter isKey).map (fun r => ((idx (keysOf kd) r.w : Nat) : Int)) = T at hcomp
    have hTm : T.foldr max (-1) + 1 = (toldN (keysOf kd) (rows.take at_) : Int) := by rw [← hT]; exact max_told (keysOf kd) (rows.take at_)
    have hTl : T.length ≤ 100 := by
      rw [← hT, List.length_map]
      exact Nat.le_trans (List.length_filter_le _ _) (by rw [List.length_take]; omega)
    refine Ret.sq (E8 c8 (.ow (T.map D.int)) .no) ?_ (Ret.ret ?_)
    · rw [ev_sSet, hcomp]
      simp only [E8]
      rcases hc8 with rfl | rfl
      · rfl
      · rfl
    · have hcat := ev_hCat (a := T.map D.int) (b := [.int (-1)]) (by rw [List.length_map, sizeLine_eq]; simp only [List.length_cons, List.length_nil]; omega)
      have hmx : hMax [.lst (T.map D.int ++ [.int (-1)])] = some (.int (T.foldr max (-1))) := by
        have : T.map D.int ++ [D.int (-1)] = (T ++ [-1]).map D.int := by rw [List.map_append]; rfl
        show (hInts _).bind _ = _
        rw [this, hInts_ints]
        show (mostI _).map _ = _
        rw [most_app]; rfl
      have cf := cutD_from (ds := (keysOf kd).map D.str) (a := toldN (keysOf kd) (rows.take at_))
      rw [← List.map_drop] at cf
      have hq := hInQ_lst w ((keysOf kd).drop (toldN (keysOf kd) (rows.take at_)))
      simp only [E8]
      generalize T.map D.int = TD at hcat hmx
      generalize toldN (keysOf kd) (rows.take at_) = tn at *
      generalize hY : ((keysOf kd).drop tn).map D.str = Y at cf hq
      generalize decide (w ∈ (keysOf kd).drop tn) = bb at *
      generalize T.foldr max (-1) = mx at *
      rcases hc8 with rfl | rfl
      · generalize (keysOf kd).map D.str = X at *
        simp -implicitDefEqProofs [hcat, hmx, hTm, cf, hq]
      · generalize (keysOf kd).map D.str = X at *
        simp -implicitDefEqProofs [hcat, hmx, hTm, cf, hq]
  · -- style
    refine Ret.sq _ (skip (by rw [h]; simp)) ?_
    refine Ret.sq _ (skip (by rw [h]; simp)) ?_
    refine Ret.sq _ (skip (by rw [h]; simp)) ?_
    refine Ret.sq _ (skip (by rw [h]; simp)) ?_
    refine Ret.sq _ (skip (by rw [h]; simp)) ?_
    refine Ret.sq _ (skip (by rw [h]; simp)) (Ret.ret ?_)
    have e : mayR kd (rows.take at_) r w = decide (w ∈ listOf kd r.role) := by unfold mayR; rw [if_neg (by rw [h]; simp), if_neg (by rw [h]; simp), if_neg (by rw [h]; simp), if_neg (by rw [h]; simp), if_neg (by rw [h]; simp), if_neg (by rw [h]; simp)]
    have q := hInQ_lst w (listOf kd r.role)
    have ls := e_lists kd
    have dk : hDic (.dic dicK (dicL kd)) (.str r.role) = some (.lst ((listOf kd r.role).map D.str)) := by
      rw [h]
      simp [hDic, keyD, dicK, dicL, lookK, listOf]
    rw [e]
    unfold mayE
    generalize (listOf kd r.role).map D.str = X at q dk
    simp -implicitDefEqProofs [ls, dk, q]
  · -- way
    refine Ret.sq _ (skip (by rw [h]; simp)) ?_
    refine Ret.sq _ (skip (by rw [h]; simp)) ?_
    refine Ret.sq _ (skip (by rw [h]; simp)) ?_
    refine Ret.sq _ (skip (by rw [h]; simp)) ?_
    refine Ret.sq _ (skip (by rw [h]; simp)) ?_
    refine Ret.sq _ (skip (by rw [h]; simp)) (Ret.ret ?_)
    have e : mayR kd (rows.take at_) r w = decide (w ∈ listOf kd r.role) := by unfold mayR; rw [if_neg (by rw [h]; simp), if_neg (by rw [h]; simp), if_neg (by rw [h]; simp), if_neg (by rw [h]; simp), if_neg (by rw [h]; simp), if_neg (by rw [h]; simp)]
    have q := hInQ_lst w (listOf kd r.role)
    have ls := e_lists kd
    have dk : hDic (.dic dicK (dicL kd)) (.str r.role) = some (.lst ((listOf kd r.role).map D.str)) := by
      rw [h]
      simp [hDic, keyD, dicK, dicL, lookK, listOf]
    rw [e]
    unfold mayE
    generalize (listOf kd r.role).map D.str = X at q dk
    simp -implicitDefEqProofs [ls, dk, q]
  · -- side
    refine Ret.sq _ (skip (by rw [h]; simp)) ?_
    refine Ret.sq _ (skip (by rw [h]; simp)) ?_
    refine Ret.sq _ (skip (by rw [h]; simp)) ?_
    refine Ret.sq _ (skip (by rw [h]; simp)) ?_
    refine Ret.sq _ (skip (by rw [h]; simp)) ?_
    refine Ret.sq _ (skip (by rw [h]; simp)) (Ret.ret ?_)
    have e : mayR kd (rows.take at_) r w = decide (w ∈ listOf kd r.role) := by unfold mayR; rw [if_neg (by rw [h]; simp), if_neg (by rw [h]; simp), if_neg (by rw [h]; simp), if_neg (by rw [h]; simp), if_neg (by rw [h]; simp), if_neg (by rw [h]; simp)]
    have q := hInQ_lst w (listOf kd r.role)
    have ls := e_lists kd
    have dk : hDic (.dic dicK (dicL kd)) (.str r.role) = some (.lst ((listOf kd r.role).map D.str)) := by
      rw [h]
      simp [hDic, keyD, dicK, dicL, lookK, listOf]
    rw [e]
    unfold mayE
    generalize (listOf kd r.role).map D.str = X at q dk
    simp -implicitDefEqProofs [ls, dk, q]
end DL
namespace DL
open PySem PySem.Spec PyProof.Rows L2
structure OkWs (w : Str) : Prop where
  small : w.length ≤ 120
  sub : ∀ c ∈ w.cps.toList, c ∈ AN
theorem OkWs.wd {w : Str} (h : OkWs w) : OkWd w := ⟨by have := h.small; omega, h.sub⟩
theorem okws_list (l : List Nat) (h : l.length ≤ 120) (hs : ∀ c ∈ l, c ∈ AN) : OkWs (tx l) := ⟨by rw [tx_len]; exact h, by rw [tx_list]; exact hs⟩
theorem okws_dec {w : Str} (h : (decide (w.length ≤ 120) && w.cps.toList.all (fun c => decide (c ∈ AN))) = true) : OkWs w := by
  simp only [Bool.and_eq_true, decide_eq_true_eq, List.all_eq_true] at h
  exact ⟨h.1, h.2⟩
theorem okws_nw : ∀ n ∈ List.range 41, (decide ((nw (n : Nat)).length ≤ 120) && (nw (n : Nat)).cps.toList.all (fun c => decide (c ∈ AN))) = true := by decide +kernel
theorem ok_nw {n : Int} (h0 : 0 ≤ n) (h1 : n ≤ 40) : OkWs (nw n) := by
  obtain ⟨m, rfl⟩ := Int.eq_ofNat_of_zero_le h0
  exact okws_dec (okws_nw m (by rw [List.mem_range]; omega))
theorem ok_sw {c : Nat} (h : c ∈ AS) : OkWs (sw c) := by
  unfold sw
  split
  · exact okws_dec (by decide +kernel)
  · rename_i hc
    rcases mem_AS h with z | z
    · exact (hc z).elim
    · exact okws_list [c] (by simp) (fun x hx => by rw [List.mem_singleton.mp hx]; exact z)
theorem okws_all : ∀ w ∈ stylesL ++ waysL ++ sides4 ++ sides3 ++ (["number", "word", "choice", "base", "sign", "groups", "point", "way", "width", "fill", "side", "strict", "blank"] : List Str), (decide (w.length ≤ 120) && w.cps.toList.all (fun c => decide (c ∈ AN))) = true := by decide +kernel
theorem ok_lit {w : Str} (h : w ∈ stylesL ++ waysL ++ sides4 ++ sides3 ++ (["number", "word", "choice", "base", "sign", "groups", "point", "way", "width", "fill", "side", "strict", "blank"] : List Str)) : OkWs w := okws_dec (okws_all w h)
theorem ok_ssw {l : List Nat} (h : OkSg l) (b : Int) : OkWs (ssw l b) := by
  have hl := h.len
  have hf : (l.filter (· ≠ 32)).length ≤ 95 := Nat.le_trans (List.length_filter_le _ _) hl
  have sub : ∀ c ∈ l.filter (· ≠ 32), c ∈ AN := fun c hc => by
    obtain ⟨h1, h2⟩ := List.mem_filter.mp hc
    rcases mem_AS (h.sub c h1) with z | z
    · simp [z] at h2
    · exact z
  have e1 : OkWs ("=" ++ tx (l.filter (· ≠ 32))) := by
    have : ("=" : Str) = tx [61] := rfl
    rw [this, tx_app]
    refine okws_list _ (by simp only [List.length_append, List.length_cons, List.length_nil]; omega) fun c hc => ?_
    rcases List.mem_append.mp hc with z | z
    · rw [List.mem_singleton.mp z]; decide +kernel
    · exact sub c z
  unfold ssw
  simp only
  split
  · cases hq : setsL.find? (fun p => p.2 = tx (l.filter (· ≠ 32))) with
    | none => exact e1
    | some p =>
      have hm := List.mem_of_find?_eq_some hq
      have : ∀ p ∈ setsL, (decide (p.1.length ≤ 120) && p.1.cps.toList.all (fun c => decide (c ∈ AN))) = true := by decide +kernel
      exact okws_dec (this p hm)
  · exact e1
structure OkRow (kd : Str) (r : Row) : Prop where
  w : OkWs r.w
  role : RoleOk r
  key : r.role = "key" → r.w ∈ keysOf kd
theorem OkRow.of {kd : Str} {w role : Str} {lo hi : Int} (hw : OkWs w) (hr : RoleOk ⟨w, role, lo, hi⟩) (hk : role ≠ "key") : OkRow kd ⟨w, role, lo, hi⟩ := ⟨hw, hr, fun z => (hk z).elim⟩
theorem OkRow.k {kd k : Str} (h : k ∈ keysOf kd) (hw : OkWs k) : OkRow kd (DL.key k) := ⟨hw, ⟨by simp [DL.key]⟩, fun _ => h⟩
theorem oi_all {c : Prop} [Decidable c] {X : List Row} {P : Row → Prop} (h : c → ∀ r ∈ X, P r) : ∀ r ∈ oi c X, P r := by
  intro r hr
  unfold oi at hr
  split at hr
  · rename_i hc; exact h hc r hr
  · cases hr
theorem tail_ok {kd kept : Str} {width : Int} {fill : Nat} {side : Str} {strict : Bool} {b : Int} (hw : 0 ≤ width ∧ width ≤ 40) (hf : fill ∈ AS) (hs : side ∈ sides4) : ∀ r ∈ tailR kept width fill side strict b, OkRow kd r := by
  have kk : ∀ k ∈ (["width", "fill", "side", "strict"] : List Str), k ∈ keysOf kd := fun k hk => by
    unfold keysOf; exact List.mem_append_right _ hk
  intro r hr
  unfold tailR at hr
  rcases List.mem_append.mp hr with hr | hr
  · rcases List.mem_append.mp hr with hr | hr
    · rcases List.mem_append.mp hr with hr | hr
      · refine oi_all (fun _ r hr => ?_) r hr
        simp only [List.mem_cons, List.not_mem_nil, or_false] at hr
        rcases hr with rfl | rfl
        · exact .k (kk _ (by simp)) (ok_lit (by simp))
        · exact .of (ok_nw hw.1 hw.2) ⟨by simp⟩ (by simp)
      · refine oi_all (fun _ r hr => ?_) r hr
        simp only [List.mem_cons, List.not_mem_nil, or_false] at hr
        rcases hr with rfl | rfl
        · exact .k (kk _ (by simp)) (ok_lit (by simp))
        · exact .of (ok_sw hf) ⟨by simp⟩ (by simp)
    · refine oi_all (fun _ r hr => ?_) r hr
      simp only [List.mem_cons, List.not_mem_nil, or_false] at hr
      rcases hr with rfl | rfl
      · exact .k (kk _ (by simp)) (ok_lit (by simp))
      · exact .of (ok_lit (by simp only [List.mem_append]; exact .inl (.inl (.inr hs)))) ⟨by simp⟩ (by simp)
  · refine oi_all (fun _ r hr => ?_) r hr
    simp only [List.mem_cons, List.not_mem_nil, or_false] at hr
    rcases hr with rfl
    exact .k (kk _ (by simp)) (ok_lit (by simp))
theorem s34 {s : Str} (h : s ∈ sides3) : s ∈ sides4 := by
  simp only [sides3, sides4, List.mem_cons, List.not_mem_nil, or_false] at h ⊢
  rcases h with h | h | h <;> simp [h]
theorem rows_ok (s : Spec) (h : s.Ok) (b : Int) : ∀ r ∈ s.rows b, OkRow s.kind r := by
  cases s with
  | num s =>
    obtain ⟨h, _⟩ := h
    have kk : ∀ k ∈ (["base", "sign", "groups", "point", "way"] : List Str), k ∈ keysOf "number" := fun k hk => by
      unfold keysOf; simp only [List.mem_append]; left; simpa using hk
    intro r hr
    rcases List.mem_append.mp hr with hr | hr
    · unfold headN at hr
      rcases List.mem_append.mp hr with hr | hr
      · rcases List.mem_append.mp hr with hr | hr
        · rcases List.mem_append.mp hr with hr | hr
          · rcases List.mem_append.mp hr with hr | hr
            · rcases List.mem_append.mp hr with hr | hr
              · simp only [List.mem_cons, List.not_mem_nil, or_false] at hr
                rcases hr with rfl | rfl | rfl
                · exact .of (ok_lit (by simp)) ⟨by simp⟩ (by simp)
                · exact .of (ok_nw (by have := h.fig; omega) (by have := h.fig; omega)) ⟨by simp⟩ (by simp)
                · exact .of (ok_nw (by have := h.plc; omega) (by have := h.plc; omega)) ⟨by simp⟩ (by simp)
              · refine oi_all (fun _ r hr => ?_) r hr
                simp only [List.mem_cons, List.not_mem_nil, or_false] at hr
                rcases hr with rfl | rfl
                · exact .k (kk _ (by simp)) (ok_lit (by simp))
                · exact .of (ok_nw (by have := h.base; omega) (by have := h.base; omega)) ⟨by simp⟩ (by simp)
            · refine oi_all (fun _ r hr => ?_) r hr
              simp only [List.mem_cons, List.not_mem_nil, or_false] at hr
              rcases hr with rfl | rfl
              · exact .k (kk _ (by simp)) (ok_lit (by simp))
              · exact .of (ok_lit (by simp only [List.mem_append]; exact .inl (.inl (.inl (.inl h.sign))))) ⟨by simp⟩ (by simp)
          · refine oi_all (fun _ r hr => ?_) r hr
            simp only [List.mem_cons, List.not_mem_nil, or_false] at hr
            rcases hr with rfl | rfl | rfl
            · exact .k (kk _ (by simp)) (ok_lit (by simp))
            · exact .of (ok_nw (by have := h.size; omega) (by have := h.size; omega)) ⟨by simp⟩ (by simp)
            · exact .of (ok_sw h.mark) ⟨by simp⟩ (by simp)
        · refine oi_all (fun _ r hr => ?_) r hr
          simp only [List.mem_cons, List.not_mem_nil, or_false] at hr
          rcases hr with rfl | rfl
          · exact .k (kk _ (by simp)) (ok_lit (by simp))
          · exact .of (ok_sw h.point) ⟨by simp⟩ (by simp)
      · refine oi_all (fun _ r hr => ?_) r hr
        simp only [List.mem_cons, List.not_mem_nil, or_false] at hr
        rcases hr with rfl | rfl
        · exact .k (kk _ (by simp)) (ok_lit (by simp))
        · exact .of (ok_lit (by simp only [List.mem_append]; exact .inl (.inl (.inl (.inr h.way))))) ⟨by simp⟩ (by simp)
    · exact tail_ok h.width h.fill h.side r hr
  | word s =>
    obtain ⟨h, _⟩ := h
    intro r hr
    rcases List.mem_append.mp hr with hr | hr
    · unfold headW at hr
      rcases List.mem_append.mp hr with hr | hr
      · simp only [List.mem_cons, List.not_mem_nil, or_false] at hr
        rcases hr with rfl | rfl | rfl | rfl
        · exact .of (ok_lit (by simp)) ⟨by simp⟩ (by simp)
        · exact .of (ok_ssw h.signs _) ⟨by simp⟩ (by simp)
        · exact .of (ok_nw (by have := h.least; omega) (by have := h.least; have := h.most; omega)) ⟨by simp⟩ (by simp)
        · exact .of (ok_nw (by have := h.least; omega) (by have := h.most; omega)) ⟨by simp⟩ (by simp)
      · refine oi_all (fun _ r hr => ?_) r hr
        simp only [List.mem_cons, List.not_mem_nil, or_false] at hr
        rcases hr with rfl
        exact .k (by simp [Spec.kind, keysOf]) (ok_lit (by simp))
    · exact tail_ok h.width h.fill (s34 h.side) r hr
  | cho s =>
    obtain ⟨h, _⟩ := h
    intro r hr
    rcases List.mem_append.mp hr with hr | hr
    · unfold headC at hr
      rcases List.mem_append.mp hr with hr | hr
      · have n1 := h.names.lo
        have n2 := h.names.hi
        simp only [List.mem_cons, List.not_mem_nil, or_false] at hr
        rcases hr with rfl | rfl
        · exact .of (ok_lit (by simp)) ⟨by simp⟩ (by simp)
        · exact .of (ok_nw (by omega) (by omega)) ⟨by simp⟩ (by simp)
      · obtain ⟨l, hl, rfl⟩ := List.mem_map.mp hr
        have := h.names.ok l hl
        exact .of (okws_list l (by have := this.hi; omega) this.sub) ⟨by simp⟩ (by simp)
    · exact tail_ok h.width h.fill (s34 h.side) r hr
theorem tail_len {kept : Str} {width : Int} {fill : Nat} {side : Str} {strict : Bool} {b : Int} : (tailR kept width fill side strict b).length ≤ 7 := by
  unfold tailR
  have l1 := oi_len (c := 0 < width) (X := [key "width", ⟨nw width, "number", 1, 40⟩])
  have l2 := oi_len (c := fill ≠ 32 ∨ b / 16 % 2 = 1) (X := [key "fill", ⟨sw fill, "sign", 0, 0⟩])
  have l3 := oi_len (c := side ≠ kept ∨ b / 32 % 2 = 1) (X := [key "side", ⟨side, "side", 0, 0⟩])
  have l4 := oi_len (c := strict = true) (X := [key "strict"])
  simp only [List.length_append, List.length_cons, List.length_nil] at l1 l2 l3 l4 ⊢; omega
theorem rows_len (s : Spec) (h : s.Ok) (b : Int) : (s.rows b).length ≤ 40 := by
  cases s with
  | num s =>
    show (headN s b ++ tailR "right" s.width s.fill s.side s.strict b).length ≤ 40
    have := tail_len (kept := "right") (width := s.width) (fill := s.fill) (side := s.side) (strict := s.strict) (b := b)
    unfold headN
    have l1 := oi_len (c := s.base ≠ 10 ∨ b % 2 = 1) (X := [key "base", ⟨nw s.base, "number", 2, 16⟩])
    have l2 := oi_len (c := s.sign ≠ "minus" ∨ b / 2 % 2 = 1) (X := [key "sign", ⟨s.sign, "style", 0, 0⟩])
    have l3 := oi_len (c := 0 < s.size) (X := [key "groups", ⟨nw s.size, "number", 1, 9⟩, ⟨sw s.mark, "sign", 0, 0⟩])
    have l4 := oi_len (c := s.point ≠ 46 ∨ b / 4 % 2 = 1) (X := [key "point", ⟨sw s.point, "sign", 0, 0⟩])
    have l5 := oi_len (c := s.way ≠ "near" ∨ b / 8 % 2 = 1) (X := [key "way", ⟨s.way, "way", 0, 0⟩])
    simp only [List.length_append, List.length_cons, List.length_nil] at l1 l2 l3 l4 l5 ⊢; omega
  | word s =>
    show (headW s b ++ tailR "left" s.width s.fill s.side s.strict b).length ≤ 40
    have := tail_len (kept := "left") (width := s.width) (fill := s.fill) (side := s.side) (strict := s.strict) (b := b)
    unfold headW
    have l1 := oi_len (c := 32 ∈ s.signs) (X := [key "blank"])
    simp only [List.length_append, List.length_cons, List.length_nil] at l1 ⊢; omega
  | cho s =>
    show (headC s ++ tailR "left" s.width s.fill s.side s.strict b).length ≤ 40
    have := tail_len (kept := "left") (width := s.width) (fill := s.fill) (side := s.side) (strict := s.strict) (b := b)
    unfold headC
    have := h.1.names.hi
    simp only [List.length_append, List.length_cons, List.length_nil, List.length_map]; omega
end DL
namespace DL
open PySem PySem.Spec PyProof.Rows L2
noncomputable def langL : List Str := (["number", "word", "choice", "blank", "inside", "lower", "upper", "figures", "all"] : List Str) ++ keysOf "number" ++ stylesL ++ waysL ++ sides3
theorem lang_ok : ∀ w ∈ langL, (decide (w.length ≤ 120) && w.cps.toList.all (fun c => decide (c ∈ AN))) = true := by decide +kernel
theorem lang_len : langL.length = 31 := by decide +kernel
theorem e_language : F__law_language [] = .ok (.ow (langL.map D.str)) := by
  have ks := e_keys "number" (.inl rfl)
  have ls := e_lists "choice"
  have h1 := ev_hCat (a := [.str "number", .str "word", .str "choice", .str "blank", .str "inside", .str "lower", .str "upper", .str "figures", .str "all"]) (b := (keysOf "number").map D.str) (by rw [List.length_map, sizeLine_eq]; have := keys_len "number"; simp only [List.length_cons, List.length_nil]; omega)
  have cat : ∀ xs ys : List Str, xs.length ≤ 50 → ys.length ≤ 50 → hCat (.lst (xs.map D.str)) (.lst (ys.map D.str)) = some ((xs ++ ys).map D.str) := fun xs ys hx hy => by
    rw [ev_hCat (by rw [List.length_map, List.length_map, sizeLine_eq]; omega), ← List.map_append]
  let L0 : List Str := (["number", "word", "choice", "blank", "inside", "lower", "upper", "figures", "all"] : List Str) ++ keysOf "number"
  have e0 : [D.str "number", .str "word", .str "choice", .str "blank", .str "inside", .str "lower", .str "upper", .str "figures", .str "all"] ++ (keysOf "number").map D.str = L0.map D.str := by simp [L0]
  rw [e0] at h1
  have l0 : L0.length = 18 := by decide +kernel
  have c1 := cat L0 stylesL (by omega) (by decide +kernel)
  have c2 := cat (L0 ++ stylesL) waysL (by decide +kernel) (by decide +kernel)
  have c3 := cat (L0 ++ stylesL ++ waysL) sides3 (by decide +kernel) (by decide +kernel)
  have d1 : (keyD (.str "style")).bind (fun z => lookK z dicK (dicL "choice")) = some (.lst (stylesL.map D.str)) := by simp [keyD, dicK, dicL, lookK]
  have d2 : (keyD (.str "way")).bind (fun z => lookK z dicK (dicL "choice")) = some (.lst (waysL.map D.str)) := by simp [keyD, dicK, dicL, lookK]
  have d3 : (keyD (.str "side")).bind (fun z => lookK z dicK (dicL "choice")) = some (.lst (sides3.map D.str)) := by simp [keyD, dicK, dicL, lookK]
  have fin : langL = L0 ++ stylesL ++ waysL ++ sides3 := rfl
  have e_okl9 : okLen [D.str "number", .str "word", .str "choice", .str "blank", .str "inside", .str "lower", .str "upper", .str "figures", .str "all"] = some _ := okLen_eq (by rw [sizeLine_eq]; decide)
  unfold F__law_language
  rw [fin]
  generalize (keysOf "number").map D.str = K at ks h1
  generalize (L0 ++ stylesL ++ waysL ++ sides3).map D.str = R3 at c3 ⊢
  generalize (L0 ++ stylesL ++ waysL).map D.str = R2 at c2 c3
  generalize (L0 ++ stylesL).map D.str = R1 at c1 c2
  generalize L0.map D.str = R0 at h1 c1
  generalize stylesL.map D.str = S1 at d1 c1
  generalize waysL.map D.str = S2 at d2 c2
  generalize sides3.map D.str = S3 at d3 c3
  generalize dicL "choice" = dl at ls d1 d2 d3
  refine Ret.runs rfl (Ret.sq [.ow R0, .no] ?_ (Ret.sq [.ow R0, .dk dicK dl] ?_ (Ret.ret ?_)))
  · simp -implicitDefEqProofs [ks, h1, e_okl9]
  · simp -implicitDefEqProofs [ls]
  · have g1 : ∀ (k : Str) (c0 : Cell) (d : D), (keyD (.str k)).bind (fun z => lookK z dicK dl) = some d → gDicN 1 (gC (.str k)) [c0, .dk dicK dl] = .ok (d, [c0, .dk dicK dl]) := fun k c0 d hd => by
      show (optR ((keyD (.str k)).bind fun z => lookK z dicK dl)).map _ = _
      rw [hd]; rfl
    have G1 := g1 "style" (.fz (.lst R0)) _ d1
    have G2 := g1 "way" (.fz (.lst R0)) _ d2
    have G3 := g1 "side" (.fz (.lst R0)) _ d3
    simp -implicitDefEqProofs [G1, G2, G3, c1, c2, c3]
structure OkWm (w : Str) : Prop where
  small : w.length ≤ 125
  sub : ∀ c ∈ w.cps.toList, c ∈ AN
theorem OkWm.wd {w : Str} (h : OkWm w) : OkWd w := ⟨by have := h.small; omega, h.sub⟩
theorem okwm_list (l : List Nat) (h : l.length ≤ 125) (hs : ∀ c ∈ l, c ∈ AN) : OkWm (tx l) := ⟨by rw [tx_len]; exact h, by rw [tx_list]; exact hs⟩
theorem cutS_upto {l : List Nat} {t : Nat} : cutS (tx l) none (some (t : Int)) = tx (l.take t) := by
  have := cut_to (l := l) (j := (t : Int)) (by omega)
  rw [this]; congr 1
theorem cutS_from {l : List Nat} {t : Nat} : cutS (tx l) (some (t : Int)) none = tx (l.drop t) := by
  rw [cutS_tx, sIx_pos (by omega), sIx_none]
  have e2 : (t : Int).toNat = t := by omega
  rw [e2]
  congr 1
  by_cases h : t ≤ l.length
  · rw [Nat.min_eq_left h, List.take_of_length_le (by rw [List.length_drop]; omega)]
  · rw [Nat.min_eq_right (by omega), List.drop_of_length_le (Nat.le_refl _), List.drop_of_length_le (by omega)]; simp
theorem cutS_mid {l : List Nat} {a b : Nat} : cutS (tx l) (some (a : Int)) (some (b : Int)) = tx ((l.take b).drop a) := by
  have := cut_from_to (l := l) (i := (a : Int)) (j := (b : Int)) (by omega) (by omega)
  rw [this]; congr 1
theorem e_new_word {own : Str} (ho : OkWs own) (c : Int) (s : Int) (hs : 0 ≤ s) : ∃ w, OkWm w ∧ F__law_new_word [.str own, .int c, .int s] = .ok (.fz (.str w)) := by
  have ol := ho.small
  obtain ⟨l, rfl⟩ : ∃ l, own = tx l := ⟨_, (tx_eta own).symm⟩
  have sub : ∀ x ∈ l, x ∈ AN := by have := ho.sub; rw [tx_list] at this; exact this
  rw [tx_len] at ol
  have K0 := e_pick c s 8 hs (by decide)
  have K1 := e_pick c (s + 1) 93 (by omega) (by decide)
  have K2 := e_pick c (s + 2) ((l.length : Int) + 1) (by omega) (by omega)
  have hl : hLen [.str (tx l)] = some (.int l.length) := by rw [hLenS (by rw [tx_len]; omega), tx_len]
  obtain ⟨g, mg, qg, _⟩ := ix_AN (j := pick c (s + 1) 93) (pick_lo _ _ _ (by decide)) (pick_hi _ _ _ (by decide))
  have p2l := pick_lo c (s + 2) ((l.length : Int) + 1) (by omega)
  have p2h := pick_hi c (s + 2) ((l.length : Int) + 1) (by omega)
  obtain ⟨t, ht⟩ : ∃ t : Nat, pick c (s + 2) ((l.length : Int) + 1) = (t : Int) := ⟨(pick c (s + 2) ((l.length : Int) + 1)).toNat, by omega⟩
  have htl : t ≤ l.length := by omega
  rw [ht] at K2
  have p0l := pick_lo c s 8 (by decide)
  have p0h := pick_hi c s 8 (by decide)
  generalize hp0 : pick c s 8 = p0 at K0 p0l p0h
  generalize pick c (s + 1) 93 = p1 at K1 qg
  let E : DEnv := [.fz (.str (tx l)), .fz (.int c), .fz (.int s), .fz (.str (tx AN)), .fz (.int p0), .fz (.str (sgn g)), .fz (.int t), .no, .no, .no, .no]
  have pre : ∀ {T : SM} {w : Str}, Ret T E (.fz (.str w)) → Ret (sSeq (sSet 3 (mMap Cell.fz (gSlS (mOpt Cell.toD (gCall F__law_all_signs aNil)) (mPart (some (gC (.int 1)))) (mPart none))))
      (sSeq (sSet 4 (gCall F__law_pick (aCons (gVar 1) (aCons (gVar 2) (aCons (gC (.int 8)) aNil)))))
      (sSeq (sSet 5 (mMap Cell.fz (mOpt2 hIx (gVar 3) (mOpt Cell.toD (gCall F__law_pick (aCons (gVar 1) (aCons (mOpt2 hAdd (gVar 2) (gC (.int 1))) (aCons (gC (.int 93)) aNil))))))))
      (sSeq (sSet 6 (gCall F__law_pick (aCons (gVar 1) (aCons (mOpt2 hAdd (gVar 2) (gC (.int 2))) (aCons (mOpt2 hAdd (mOpt hLen (aCons (gVar 0) aNil)) (gC (.int 1))) aNil))))) T))))
      [.fz (.str (tx l)), .fz (.int c), .fz (.int s), .no, .no, .no, .no, .no, .no, .no, .no] (.fz (.str w)) := by
    intro T w h
    refine Ret.sq [.fz (.str (tx l)), .fz (.int c), .fz (.int s), .fz (.str (tx AN)), .no, .no, .no, .no, .no, .no, .no] ?_ (Ret.sq [.fz (.str (tx l)), .fz (.int c), .fz (.int s), .fz (.str (tx AN)), .fz (.int p0), .no, .no, .no, .no, .no, .no] ?_ (Ret.sq [.fz (.str (tx l)), .fz (.int c), .fz (.int s), .fz (.str (tx AN)), .fz (.int p0), .fz (.str (sgn g)), .no, .no, .no, .no, .no] ?_ (Ret.sq E ?_ h)))
    · simp -implicitDefEqProofs [ev_sliS asS_small, cut_AN]
    · simp -implicitDefEqProofs [K0]
    · simp -implicitDefEqProofs [K1, qg]
    · simp -implicitDefEqProofs [E, hl, K2]
  unfold F__law_new_word
  by_cases c1 : p0 < 4
  · have s1 := ev_sliS (z := tx l) (l := none) (h := some (t : Int)) (small_len (by rw [tx_len]; omega))
    have s2 := ev_sliS (z := tx l) (l := some (t : Int)) (h := none) (small_len (by rw [tx_len]; omega))
    have s3 := ev_sliS (z := tx l) (l := some ((t : Int) + 1)) (h := none) (small_len (by rw [tx_len]; omega))
    have s4 := ev_sliS (z := tx l) (l := some (t : Int)) (h := some ((t : Int) + 1)) (small_len (by rw [tx_len]; omega))
    rw [cutS_upto] at s1
    rw [cutS_from] at s2
    have e1 : (t : Int) + 1 = ((t + 1 : Nat) : Int) := by omega
    have s3' : sliS (.str (tx l)) (some ((t : Int) + 1)) none = some (.str (tx (l.drop (t + 1)))) := by rw [s3, e1, cutS_from]
    have s4' : sliS (.str (tx l)) (some (t : Int)) (some ((t : Int) + 1)) = some (.str (tx ((l.take (t + 1)).drop t))) := by rw [s4, e1, cutS_mid]
    have ad : ∀ a b : List Nat, a.length ≤ 400 → b.length ≤ 400 → hAdd (.str (tx a)) (.str (tx b)) = some (.str (tx (a ++ b))) := fun a b ha hb => by
      rw [ev_hAddS (by rw [tx_len, tx_len, sizeLine_eq]; omega), tx_app]
    have lt : (l.take t).length ≤ 120 := by rw [List.length_take]; omega
    have ld : (l.drop t).length ≤ 120 := by rw [List.length_drop]; omega
    have ld1 : (l.drop (t + 1)).length ≤ 120 := by rw [List.length_drop]; omega
    have lm : ((l.take (t + 1)).drop t).length ≤ 1 := by rw [List.length_drop, List.length_take]; omega
    have lsum : (l.take t).length + (l.drop t).length ≤ 120 := by rw [List.length_take, List.length_drop]; omega
    have ldd : (l.drop (t + 1)).length ≤ (l.drop t).length := by rw [List.length_drop, List.length_drop]; omega
    have b1 := ad (l.take t) [g] (by omega) (by simp)
    have b2 := ad (l.take t ++ [g]) (l.drop t) (by simp; omega) (by omega)
    have b3 := ad (l.take t ++ [g]) (l.drop (t + 1)) (by simp; omega) (by omega)
    have b4 := ad (l.take t) (l.drop (t + 1)) (by omega) (by omega)
    have b5 := ad (l.take t) ((l.take (t + 1)).drop t) (by omega) (by omega)
    have b6 := ad (l.take t ++ (l.take (t + 1)).drop t) (l.drop t) (by simp only [List.length_append]; omega) (by omega)
    have okA : ∀ x ∈ [l.take t ++ [g] ++ l.drop t, l.take t ++ [g] ++ l.drop (t + 1), l.take t ++ l.drop (t + 1), l.take t ++ (l.take (t + 1)).drop t ++ l.drop t], OkWm (tx x) := by
      have h1 : ∀ c ∈ l.take t, c ∈ AN := fun c hc => sub c (List.mem_of_mem_take hc)
      have h2 : ∀ n, ∀ c ∈ l.drop n, c ∈ AN := fun n c hc => sub c (List.mem_of_mem_drop hc)
      have h3 : ∀ c ∈ (l.take (t + 1)).drop t, c ∈ AN := fun c hc => sub c (List.mem_of_mem_take (List.mem_of_mem_drop hc))
      intro x hx
      simp only [List.mem_cons, List.not_mem_nil, or_false] at hx
      rcases hx with rfl | rfl | rfl | rfl
      · refine okwm_list _ (by simp only [List.length_append, List.length_cons, List.length_nil]; omega) fun c hc => ?_
        rcases List.mem_append.mp hc with hc | hc
        · rcases List.mem_append.mp hc with hc | hc
          · exact h1 c hc
          · rw [List.mem_singleton.mp hc]; exact mg
        · exact h2 _ c hc
      · refine okwm_list _ (by simp only [List.length_append, List.length_cons, List.length_nil]; omega) fun c hc => ?_
        rcases List.mem_append.mp hc with hc | hc
        · rcases List.mem_append.mp hc with hc | hc
          · exact h1 c hc
          · rw [List.mem_singleton.mp hc]; exact mg
        · exact h2 _ c hc
      · refine okwm_list _ (by simp only [List.length_append]; omega) fun c hc => ?_
        rcases List.mem_append.mp hc with hc | hc
        · exact h1 c hc
        · exact h2 _ c hc
      · refine okwm_list _ (by simp only [List.length_append]; omega) fun c hc => ?_
        rcases List.mem_append.mp hc with hc | hc
        · rcases List.mem_append.mp hc with hc | hc
          · exact h1 c hc
          · exact h3 c hc
        · exact h2 _ c hc
    obtain ⟨w, mw, qw⟩ := ix_str (xs := [l.take t ++ [g] ++ l.drop t, l.take t ++ [g] ++ l.drop (t + 1), l.take t ++ l.drop (t + 1), l.take t ++ (l.take (t + 1)).drop t ++ l.drop t].map tx) (j := p0) p0l (by simpa using c1)
    obtain ⟨x, mx, rfl⟩ := List.mem_map.mp mw
    refine ⟨tx x, okA x mx, Ret.runs rfl (pre (Ret.first ?_))⟩
    simp only [List.map_cons, List.map_nil] at qw
    rw [← sgn_tx] at b1
    generalize tx (l.take t ++ [g] ++ l.drop t) = A1 at *
    generalize tx (l.take t ++ [g] ++ l.drop (t + 1)) = A2 at *
    generalize tx (l.take t ++ (l.take (t + 1)).drop t ++ l.drop t) = A4 at *
    generalize tx (l.take t ++ l.drop (t + 1)) = A3 at *
    generalize tx (l.take t ++ [g]) = B1 at *
    generalize tx (l.take t ++ (l.take (t + 1)).drop t) = B2 at *
    generalize tx (l.take t) = C1 at *
    generalize tx (l.drop t) = C2 at *
    generalize tx (l.drop (t + 1)) = C3 at *
    generalize tx ((l.take (t + 1)).drop t) = C4 at *
    have hc := ev_hCat (a := [.str A1, .str A2, .str A3]) (b := [.str A4]) (by rw [sizeLine_eq]; simp only [List.length_cons, List.length_nil]; omega)
    simp only [List.cons_append, List.nil_append] at hc
    simp -implicitDefEqProofs [E, Ret, c1, s1, s2, s3', s4', b1, b2, b3, b4, b5, b6, hc, qw]
  · by_cases c2 : p0 < 7
    · have K3 := e_pick c (s + 3) 31 (by omega) (by decide)
      obtain ⟨w, mw, qw⟩ := ix_str (xs := langL) (j := pick c (s + 3) 31) (pick_lo _ _ _ (by decide)) (by rw [lang_len]; exact pick_hi _ _ _ (by decide))
      have hw := okws_dec (lang_ok w mw)
      refine ⟨w, ⟨by have := hw.small; omega, hw.sub⟩, Ret.runs rfl (pre (Ret.sq E (by simp -implicitDefEqProofs [E, c1]) (Ret.first ?_)))⟩
      have ll : (langL.map D.str).length = 31 := by rw [List.length_map, lang_len]
      have lg := e_language
      generalize langL.map D.str = X at lg qw ll
      simp -implicitDefEqProofs [E, Ret, c2, lg, gIxN, gLenN, cLst, ll, K3, qw]
    · have K3 := e_pick c (s + 3) 12 (by omega) (by decide)
      have l3 := pick_lo c (s + 3) 12 (by decide)
      have h3 := pick_hi c (s + 3) 12 (by decide)
      obtain ⟨m, hm⟩ : ∃ m : Nat, 1 + pick c (s + 3) 12 = (m : Int) := ⟨(1 + pick c (s + 3) 12).toNat, by omega⟩
      have hr := hRng_ok (n := m) (by omega)
      let ls : List Nat := (List.range m).map fun k => AN.getD (pick c (s + 4 + (k : Nat)) 93).toNat 0
      have lsl : ls.length = m := by simp [ls]
      have lss : ∀ x ∈ ls, x ∈ AN := fun x hx => by
        obtain ⟨k, _, rfl⟩ := List.mem_map.mp hx
        exact (getD_AN (pick_lo _ _ _ (by decide)) (pick_hi _ _ _ (by decide))).1
      have jn := hJoin_sgn (l := ls) (by omega)
      have cm := comp_map (i := 10) (xs := rngD 0 m) (f := mOpt2 hIx (gVar 3) (mOpt Cell.toD (gCall F__law_pick (aCons (gVar 1) (aCons (mOpt2 hAdd (mOpt2 hAdd (gVar 2) (gC (.int 4))) (gVar 10)) (aCons (gC (.int 93)) aNil)))))) (r := mOpt hRng1 (aCons (gVar 7) aNil))
        (env := [.fz (.str (tx l)), .fz (.int c), .fz (.int s), .fz (.str (tx AN)), .fz (.int p0), .fz (.str (sgn g)), .fz (.int t), .fz (.int m), .no, .no, .no]) (c := .no)
        (fun d => match d with | .int k => .str (sgn (AN.getD (pick c (s + 4 + k) 93).toNat 0)) | d => d) (by simp -implicitDefEqProofs [hr]) rfl (.inl rfl) (by rw [rngD_len, sizeLine_eq]; omega) (by
        intro x hx
        obtain ⟨k, hk, rfl⟩ := List.mem_map.mp hx
        have K := e_pick c (s + 4 + (0 + (k : Int))) 93 (by omega) (by decide)
        have A := (getD_AN (pick_lo c (s + 4 + (0 + (k : Int))) 93 (by decide)) (pick_hi _ _ _ (by decide))).2
        simp -implicitDefEqProofs only [ev_mOpt2, ev_gVar_s, ev_gVar0_fz, List.getElem?_cons_succ, List.getElem?_cons_zero, List.set_cons_succ, List.set_cons_zero, Res.bind_ok, Res.map_ok, ev_mOpt, ev_gCall, ev_aCons, ev_aNil, ev_gC, ev_hAdd, optR_some, K, ev_toD_fz, A])
      have em : (rngD 0 m).map (fun d => match d with | .int k => D.str (sgn (AN.getD (pick c (s + 4 + k) 93).toNat 0)) | d => d) = ls.map fun x => D.str (sgn x) := by
        unfold rngD
        rw [List.map_map, List.map_map]
        apply List.map_congr_left
        intro k _
        show D.str (sgn (AN.getD (pick c (s + 4 + (0 + (k : Int))) 93).toNat 0)) = D.str (sgn (AN.getD (pick c (s + 4 + (k : Nat)) 93).toNat 0))
        rw [Int.zero_add]
      rw [em] at cm
      refine ⟨tx ls, okwm_list ls (by omega) lss, Ret.runs rfl (pre (Ret.sq E (by simp -implicitDefEqProofs [E, c1]) (Ret.sq E (by simp -implicitDefEqProofs [E, c2]) (Ret.sq [.fz (.str (tx l)), .fz (.int c), .fz (.int s), .fz (.str (tx AN)), .fz (.int p0), .fz (.str (sgn g)), .fz (.int t), .fz (.int m), .no, .no, .no] ?_ (Ret.ret ?_)))))⟩
      · simp -implicitDefEqProofs [E, K3, hm]
      · rw [ev_mMap, ev_gBM, ev_gC]
        simp -implicitDefEqProofs only [Res.bind_ok, isStrD, if_true]
        rw [ev_aCons, ev_mOpt, cm]
        generalize (ls.map fun x => D.str (sgn x)) = X at jn ⊢
        simp -implicitDefEqProofs [jn]
end DL
namespace DL
open PySem PySem.Spec PyProof.Rows L2
theorem text_facts {W : List Str} (hW : OkT W) : F_is_text [.str (Txt.join " " W)] = .ok (.fz (.bl true)) ∧ hSplit (.str (Txt.join " " W)) [.str " "] = some (W.map D.str) := by
  obtain ⟨jf, jl⟩ := join_facts W hW.small hW.sub
  have jt := join_tl W
  have ej : Txt.join " " W = tx (TL.joinL [32] (W.map TL.tl)) := by rw [← jt, tx_eta]
  have it := e_is_text (l := TL.joinL [32] (W.map TL.tl)) jf
  rw [← ej] at it
  refine ⟨it, ?_⟩
  have sp : Txt.split (Txt.join " " W) " " = W := TL.split_join (y := " ") (s := 32) (S := []) rfl (by decide +kernel) hW.ne (noBlank hW)
  have hlen : (Txt.join " " W).length = (TL.joinL [32] (W.map TL.tl)).length := by rw [ej, tx_len]
  have := hW.few
  show (if ((" " : Str).length == 0) = false ∧ (Txt.join " " W).length + 2 ≤ sizeLine then some ((Txt.split (Txt.join " " W) " ").map D.str) else none) = _
  rw [if_pos ⟨rfl, by rw [hlen, sizeLine_eq]; omega⟩, sp]
theorem e_read_form0 {W : List Str} (hW : OkT W) {x : Str} (hx : W[0]? = some x) (hn : x ∉ (["number", "word", "choice"] : List Str)) : F_read_form [.str (Txt.join " " W)] = .ex (NF 0) := by
  obtain ⟨it, hsp⟩ := text_facts hW
  generalize Txt.join " " W = T at it hsp
  have ini : F_Reading_init (.ob "Reading" [] []) [.lst (W.map D.str)] = .ok (.fz .non, rdC W 0) := by
    unfold F_Reading_init
    simp -implicitDefEqProofs [sSetF, putN, putX, rdC]
  have one := r_oneOf ["number", "word", "choice"] W 0 hW.toOkW (Nat.zero_le _)
  unfold tokR oneT at one
  rw [hx] at one
  simp -implicitDefEqProofs only at one
  rw [if_neg hn] at one
  simp -implicitDefEqProofs only [List.map_cons, List.map_nil] at one
  unfold F_read_form
  show Res.bind (sSeq _ _ [.fz (.str T), .no, .no, .no]) outC = _
  have s1 : sIf (mNot (mOpt hBl (mOpt Cell.toD (gCall F_is_text (aCons (gVar 0) aNil))))) (sRaise1 "NoForm" "at" (gC (.int 0))) sNil [.fz (.str T), .no, .no, .no] = .ok (.nx [.fz (.str T), .no, .no, .no]) := by
    simp -implicitDefEqProofs [it]
  rw [ev_sSeq, s1]
  simp -implicitDefEqProofs only [Res.bind_ok, ev_sThen_nx]
  have s2 : sSet 1 (gMake "Reading" F_Reading_init (aCons (mOpt Cell.toD (gBMn isStrD hSplit (gVar 0) (aCons (gC (.str " ")) aNil))) aNil)) [.fz (.str T), .no, .no, .no] = .ok (.nx [.fz (.str T), rdC W 0, .no, .no]) := by
    simp -implicitDefEqProofs [gBMn, isStrD, hsp, gMake, ini]
  rw [ev_sSeq, s2]
  simp -implicitDefEqProofs only [Res.bind_ok, ev_sThen_nx]
  have s3 : sSet 2 (gMethS "Reading" "one_of" F_Reading_one_of 1 (aCons (mOpt Cell.toD (mMap Cell.ow (mOpt okLen (aCons (gC (.str "number")) (aCons (gC (.str "word")) (aCons (gC (.str "choice")) aNil)))))) aNil)) [.fz (.str T), rdC W 0, .no, .no] = .ex (NF 0) := by
    rw [ev_sSet, m_rd1 (args := [.lst [.str "number", .str "word", .str "choice"]]) (by simp -implicitDefEqProofs) (by decide) (by decide), one]
    rfl
  rw [ev_sSeq, s3]; rfl
theorem told_NF (n : Int) : toldAt (NF n) = some n := by
  unfold toldAt NF
  rw [if_pos ⟨rfl, rfl⟩]
theorem KindR_ex {W : List Str} {n : Int} : KindR W (.ex (NF n)) = .ex (NF n) := rfl
theorem read_bad (s : Spec) (h : s.Ok) (b : Int) {W : List Str} (hW : OkT W) {a : Nat} {x : Str} (ha : a ≤ (s.rows b).length) (hpre : ∀ j, j < a → W[j]? = ((s.rows b).map Row.w)[j]?) (hx : W[a]? = some x)
    (hm : mayR s.kind ((s.rows b).take a) (rowAt ((s.rows b).drop a)) x = false) : F_read_form [.str (Txt.join " " W)] = .ex (NF a) := by
  rw [rows_eq] at ha hpre hm
  have hsk : s.kind ∈ (["number", "word", "choice"] : List Str) := by cases s <;> simp [Spec.kind]
  cases a with
  | zero =>
    refine e_read_form0 hW hx ?_
    have e : mayR s.kind [] ⟨s.kind, "kind", 0, 0⟩ x = decide (x ∈ (["number", "word", "choice"] : List Str)) := by unfold mayR; rw [if_pos rfl]
    have hm : mayR s.kind [] ⟨s.kind, "kind", 0, 0⟩ x = false := hm
    rw [e] at hm
    exact of_decide_eq_false hm
  | succ i =>
    have h0 : W[0]? = some s.kind := hpre 0 (by omega)
    have hlt := (List.getElem?_eq_some_iff.mp hx).1
    have kb := kind_bad s h b hW (i := i) (x := x) (by simpa using ha) h0 (fun j hj => by
      have := hpre (j + 1) (by omega)
      rw [Nat.add_comm 1 j]
      exact this) (by rw [Nat.add_comm]; exact hx) hm
    rw [e_read_form hW ⟨s.kind, hsk, h0⟩ (fun c st hq => by
      rcases kb with e | ⟨c', hf, e⟩
      · rw [e] at hq; cases hq
      · rw [e] at hq; cases hq; exact ⟨hf, _, rfl⟩)]
    rcases kb with e | ⟨c', hf, e⟩
    · rw [e, KindR_ex, Nat.add_comm]
    · rw [e]
      show (if ((1 + i : Nat) : Int) < (W.length : Int) then Res.ex (NF ((1 + i : Nat) : Int)) else Res.ok c') = _
      rw [if_pos (by omega), Nat.add_comm]
theorem read_good (s : Spec) (h : s.Ok) (b : Int) (hW : OkT ((s.rows b).map Row.w)) : ∃ c, F_read_form [.str (Txt.join " " ((s.rows b).map Row.w))] = .ok c ∧ ∀ w, s = .word w → ∃ a t, c = .ob "WordForm" wNs (wDs a t) ∧ a.signs = w.signs := by
  obtain ⟨c, hf, e, hw⟩ := kind_good s h b hW rfl
  have hsk : s.kind ∈ (["number", "word", "choice"] : List Str) := by cases s <;> simp [Spec.kind]
  refine ⟨c, ?_, hw⟩
  rw [e_read_form hW ⟨s.kind, hsk, by rw [rows_eq]; rfl⟩ (fun c' st hq => by rw [e] at hq; cases hq; exact ⟨hf, _, rfl⟩), e]
  show (if (((s.rows b).map Row.w).length : Int) < (((s.rows b).map Row.w).length : Int) then _ else Res.ok c) = _
  rw [if_neg (by omega)]
theorem ref_bad {T : Str} {n : Int} (h : F_read_form [.str T] = .ex (NF n)) : F__law_refused [.str T] = .ok (.fz (.int n)) := by
  show (match F_read_form [.str T] with | .ok _ => _ | .ex x => (optR (toldAt x)).map fun n => Cell.fz (.int n) | .stuck => _ : Res Cell) = _
  rw [h]
  simp only
  rw [told_NF]; rfl
theorem ref_good {T : Str} {c : Cell} (h : F_read_form [.str T] = .ok c) : F__law_refused [.str T] = .ok (.fz (.int (-1))) := by
  show (match F_read_form [.str T] with | .ok _ => Res.ok (Cell.fz (.int (-1))) | .ex x => (optR (toldAt x)).map fun n => Cell.fz (.int n) | .stuck => _ : Res Cell) = _
  rw [h]
theorem okT_rows (s : Spec) (h : s.Ok) (b : Int) : OkT ((s.rows b).map Row.w) := by
  have hl := rows_len s h b
  refine ⟨⟨by rw [List.length_map]; omega, fun w hw => ?_⟩, ?_, fun w hw => ?_⟩
  · obtain ⟨r, hr, rfl⟩ := List.mem_map.mp hw
    have := (rows_ok s h b r hr).w.small; omega
  · rw [rows_eq]; simp
  · obtain ⟨r, hr, rfl⟩ := List.mem_map.mp hw
    exact (rows_ok s h b r hr).w.sub
theorem hJoin_ok {W : List Str} (hW : OkT W) : hJoin (.str " ") [.lst (W.map D.str)] = some (.str (Txt.join " " W)) := by
  show (strsOf (W.map D.str)).bind _ = _
  rw [strsOf_map]
  show (if (W.map (·.length)).sum + W.length * (" " : Str).length ≤ 16777216 then some (D.str (Txt.join " " W)) else none) = _
  have h1 : ∀ V : List Str, (∀ w ∈ V, w.length ≤ 600) → (V.map (·.length)).sum ≤ 600 * V.length := by
    intro V
    induction V with
    | nil => intro _; simp
    | cons v V ih =>
      intro hV
      have := ih fun w hw => hV w (List.mem_cons_of_mem _ hw)
      have := hV v (by simp)
      simp only [List.map_cons, List.sum_cons, List.length_cons]; omega
  have h2 := h1 W hW.small
  have h3 := hW.few
  rw [if_pos (by rw [show (" " : Str).length = 1 from rfl]; omega)]
end DL
namespace DL
open PySem PySem.Spec PyProof.Rows L2
theorem words_comp {rs : List Row} {env : DEnv} {i : Nat} {c : Cell} {r : M (List D)} (hr : r env = .ok (rowsD rs, env)) (hc : env[i]? = some c) (hp : Pl c) (hl : rs.length ≤ 1000)
    (hi : ∀ x, gVar i (env.set i (.fz x)) = .ok (x, env.set i (.fz x))) : gComp r (gtName i) mYes (mOpt2 hIx (gVar i) (gC (.int 0))) [i] env = .ok (.ow ((rs.map Row.w).map D.str), env) := by
  have cm := comp_map (i := i) (xs := rowsD rs) (f := mOpt2 hIx (gVar i) (gC (.int 0))) (r := r) (env := env) (c := c) (fun d => match d with | .tup (x :: _) => x | d => d) hr hc hp (by rw [List.length_map, sizeLine_eq]; omega) (by
    intro x hx
    obtain ⟨r', hr', rfl⟩ := List.mem_map.mp hx
    rw [ev_mOpt2, hi]
    simp -implicitDefEqProofs [Row.d])
  have em : (rowsD rs).map (fun d => match d with | .tup (x :: _) => x | d => d) = (rs.map Row.w).map D.str := by
    rw [List.map_map, List.map_map]; rfl
  rw [em] at cm
  exact cm
theorem rowAt_w (rs : List Row) (a : Nat) : RoleOk (rowAt (rs.drop a)) ∨ a < rs.length := by
  by_cases h : a < rs.length
  · exact .inr h
  · left
    rw [List.drop_of_length_le (by omega)]
    exact ⟨by simp [rowAt, key]⟩
theorem e_one_right (sp : Spec) (h : sp.Ok) (b : Int) (c s : Int) (hs : 0 ≤ s) : F__law_one_right [.lst (rowsD (sp.rows b)), .int c, .int s] = .ok (.fz (.bl true)) := by
  have hlen := rows_len sp h b
  have hok := rows_ok sp h b
  have okT := okT_rows sp h b
  have hnd : sp.kind = "number" ∨ sp.kind = "word" ∨ sp.kind = "choice" := by cases sp <;> simp [Spec.kind]
  have hrow0 : (sp.rows b)[0]? = some ⟨sp.kind, "kind", 0, 0⟩ := by rw [rows_eq]; rfl
  have rb := @read_bad sp h b
  generalize sp.rows b = rs at *
  have K20 := e_pick c (s + 20) ((rs.length : Int) + 1) (by omega) (by omega)
  have l20 := pick_lo c (s + 20) ((rs.length : Int) + 1) (by omega)
  have h20 := pick_hi c (s + 20) ((rs.length : Int) + 1) (by omega)
  obtain ⟨a, ha⟩ : ∃ a : Nat, pick c (s + 20) ((rs.length : Int) + 1) = (a : Int) := ⟨(pick c (s + 20) ((rs.length : Int) + 1)).toNat, by omega⟩
  have hal : a ≤ rs.length := by omega
  rw [ha] at K20
  have K21 := e_pick c (s + 21) 2 (by omega) (by decide)
  have l21 := pick_lo c (s + 21) 2 (by decide)
  have h21 := pick_hi c (s + 21) 2 (by decide)
  obtain ⟨p, hp⟩ : ∃ p : Nat, pick c (s + 21) 2 = (p : Int) := ⟨(pick c (s + 21) 2).toNat, by omega⟩
  rw [hp] at K21
  have K22 := e_pick c (s + 22) 3 (by omega) (by decide)
  -- the own word
  obtain ⟨own, hown, qown⟩ : ∃ own, OkWs own ∧ L2.atI ((rs.map Row.w).map D.str ++ [.str "strict"]) (a : Int) = some (.str own) := by
    by_cases hlt : a < rs.length
    · refine ⟨rs[a].w, (hok _ (List.getElem_mem hlt)).w, ?_⟩
      rw [atI_nat, List.getElem?_append_left (by rw [List.length_map, List.length_map]; exact hlt), List.getElem?_map, List.getElem?_map, List.getElem?_eq_getElem hlt]; rfl
    · have : a = rs.length := by omega
      refine ⟨"strict", ok_lit (by simp), ?_⟩
      rw [atI_nat, List.getElem?_append_right (by rw [List.length_map, List.length_map]; omega), List.length_map, List.length_map, this, Nat.sub_self]; rfl
  obtain ⟨w, hw, qw⟩ := e_new_word hown c s hs
  have roleA : RoleOk (rowAt (rs.drop a)) := by
    rcases rowAt_w rs a with z | z
    · exact z
    · have : rowAt (rs.drop a) = rs[a] := by unfold rowAt; rw [List.drop_eq_getElem_cons z]; rfl
      rw [this]; exact (hok _ (List.getElem_mem z)).role
  have may := e_may hnd hrow0 (by omega) hal hw.wd (fun r hr => (hok r (List.mem_of_mem_take hr)).key) roleA
  have hcw := ev_hCat (a := (rs.map Row.w).map D.str) (b := [.str "strict"]) (by rw [List.length_map, List.length_map, sizeLine_eq]; simp only [List.length_cons, List.length_nil]; omega)
  let E : Cell → Cell → DEnv := fun c5 c6 => [.fz (.lst (rowsD rs)), .fz (.int c), .fz (.int s), .fz (.lst ((rs.map Row.w).map D.str)), .fz (.int a), c5, c6, .no]
  unfold F__law_one_right
  refine Ret.runs rfl (Ret.sq [.fz (.lst (rowsD rs)), .fz (.int c), .fz (.int s), .ow ((rs.map Row.w).map D.str), .no, .no, .no, .no] ?_ (Ret.sq [.fz (.lst (rowsD rs)), .fz (.int c), .fz (.int s), .ow ((rs.map Row.w).map D.str), .fz (.int a), .no, .no, .no] ?_ (Ret.sq (E (.fz (.str w)) .no) ?_ ?_)))
  · have wc := words_comp (rs := rs) (env := [.fz (.lst (rowsD rs)), .fz (.int c), .fz (.int s), .no, .no, .no, .no, .no]) (i := 7) (c := .no) (r := mOpt hLst (gVar 0)) (by
      generalize rowsD rs = R
      simp -implicitDefEqProofs [hLst]) rfl (.inl rfl) (by omega) (fun x => rfl)
    show sSet 3 (gComp _ _ _ _ _) _ = _
    rw [ev_sSet]
    show Res.bind (gComp (mOpt hLst (gVar 0)) (gtName 7) mYes (mOpt2 hIx (gVar 7) (gC (.int 0))) [7] [.fz (.lst (rowsD rs)), .fz (.int c), .fz (.int s), .no, .no, .no, .no, .no]) _ = _
    rw [wc]; rfl
  · have ll : (rowsD rs).length = rs.length := List.length_map ..
    generalize rowsD rs = R at ll
    generalize (rs.map Row.w).map D.str = X
    simp -implicitDefEqProofs [gLenN, cLst, hLst, ll, K20]
  · simp only [E]
    generalize rowsD rs = R
    generalize (rs.map Row.w).map D.str = X at hcw qown
    simp -implicitDefEqProofs [hcw, qown, qw]
  cases hm : mayR sp.kind (rs.take a) (rowAt (rs.drop a)) w with
  | true =>
    rw [hm] at may
    refine Ret.first ?_
    simp only [E]
    generalize rowsD rs = R at may
    generalize (rs.map Row.w).map D.str = X
    simp -implicitDefEqProofs [Ret, may]
  | false =>
    rw [hm] at may
    let W0 : List Str := (rs.map Row.w).take a ++ [w] ++ (rs.map Row.w).drop (a + p)
    have W0l : W0.length ≤ 100 := by simp only [W0, List.length_append, List.length_take, List.length_drop, List.length_map, List.length_cons, List.length_nil]; omega
    have c1 := cutD_to (ds := (rs.map Row.w).map D.str) (b := a) (by rw [List.length_map, List.length_map]; exact hal)
    have c2 := cutD_from (ds := (rs.map Row.w).map D.str) (a := a + p)
    have e2 : ((a + p : Nat) : Int) = (a : Int) + (p : Int) := by omega
    rw [e2] at c2
    rw [← List.map_take] at c1
    rw [← List.map_drop] at c2
    have h1 : hCat (.lst (((rs.map Row.w).take a).map D.str)) (.lst [.str w]) = some (((rs.map Row.w).take a ++ [w]).map D.str) := by
      rw [ev_hCat (by rw [List.length_map, List.length_take, sizeLine_eq]; simp only [List.length_cons, List.length_nil]; omega), List.map_append]; rfl
    have h2 : hCat (.lst (((rs.map Row.w).take a ++ [w]).map D.str)) (.lst (((rs.map Row.w).drop (a + p)).map D.str)) = some (W0.map D.str) := by
      rw [ev_hCat (by rw [List.length_map, List.length_map, List.length_append, List.length_take, List.length_drop, List.length_map, sizeLine_eq]; simp only [List.length_cons, List.length_nil]; omega), ← List.map_append]
    -- any mixed words
    have bad : ∀ V : List Str, OkT V → (∃ q, V = W0 ++ q) → F__law_refused [.str (Txt.join " " V)] = .ok (.fz (.int a)) := by
      rintro V hV ⟨q, rfl⟩
      refine ref_bad (rb hV hal (fun j hj => ?_) ?_ hm)
      · simp only [W0, List.append_assoc]
        rw [List.getElem?_append_left (by rw [List.length_take, List.length_map]; omega), List.getElem?_take_of_lt hj]
      · simp only [W0, List.append_assoc]
        rw [List.getElem?_append_right (by rw [List.length_take, List.length_map]; omega), List.length_take, List.length_map, Nat.min_eq_left hal, Nat.sub_self]; rfl
    have okW0 : OkT W0 := by
      refine ⟨⟨by omega, fun x hx => ?_⟩, by simp [W0], fun x hx => ?_⟩
      · simp only [W0] at hx
        rcases List.mem_append.mp hx with hx | hx
        · rcases List.mem_append.mp hx with hx | hx
          · exact okT.small x (List.mem_of_mem_take hx)
          · rw [List.mem_singleton.mp hx]; have := hw.small; omega
        · exact okT.small x (List.mem_of_mem_drop hx)
      · simp only [W0] at hx
        rcases List.mem_append.mp hx with hx | hx
        · rcases List.mem_append.mp hx with hx | hx
          · exact okT.sub x (List.mem_of_mem_take hx)
          · rw [List.mem_singleton.mp hx]; exact hw.sub
        · exact okT.sub x (List.mem_of_mem_drop hx)
    have okW1 : OkT (W0 ++ (["Q"] : List Str)) := by
      have oq : OkWs "Q" := okws_dec (by decide +kernel)
      refine ⟨⟨by simp only [List.length_append, List.length_cons, List.length_nil]; omega, fun x hx => ?_⟩, by simp, fun x hx => ?_⟩
      · rcases List.mem_append.mp hx with hx | hx
        · exact okW0.small x hx
        · rw [List.mem_singleton.mp hx]; decide
      · rcases List.mem_append.mp hx with hx | hx
        · exact okW0.sub x hx
        · rw [List.mem_singleton.mp hx]; exact oq.sub
    refine Ret.sq (E (.fz (.str w)) .no) ?_ (Ret.sq (E (.fz (.str w)) (.ow (W0.map D.str))) ?_ ?_)
    · simp only [E]
      generalize rowsD rs = R at may
      generalize (rs.map Row.w).map D.str = X
      simp -implicitDefEqProofs [may]
    · simp only [E]
      generalize rowsD rs = R
      generalize W0.map D.str = Z at h2
      generalize ((rs.map Row.w).take a ++ [w]).map D.str = Y at h1 h2
      generalize ((rs.map Row.w).take a).map D.str = X1 at c1 h1
      generalize ((rs.map Row.w).drop (a + p)).map D.str = X2 at c2 h2
      generalize (rs.map Row.w).map D.str = X at c1 c2
      simp -implicitDefEqProofs [c1, c2, h1, h2, K21]
    have fin : ∀ V : List Str, OkT V → (∃ q, V = W0 ++ q) → Ret (sRet (mMap Cell.fz (mMap D.bl (mOpt2 hEqS (mOpt Cell.toD (gCall F__law_refused (aCons (gBM isStrD hJoin (gC (.str " ")) (aCons (gVar 6) aNil)) aNil))) (gVar 4))))) (E (.fz (.str w)) (.ow (V.map D.str))) (.fz (.bl true)) := by
      intro V hV hq
      have hj := hJoin_ok hV
      have hb := bad V hV hq
      refine Ret.ret ?_
      simp only [E]
      generalize rowsD rs = R
      generalize (rs.map Row.w).map D.str = X
      generalize V.map D.str = Y at hj
      simp -implicitDefEqProofs [ev_gBM, isStrD, hj, hb]
    by_cases hz : pick c (s + 22) 3 = 0
    · refine Ret.sq (E (.fz (.str w)) (.ow ((W0 ++ (["Q"] : List Str)).map D.str))) ?_ (fin _ okW1 ⟨(["Q"] : List Str), rfl⟩)
      have hlt : (W0.map D.str).length < sizeLine := by rw [List.length_map, sizeLine_eq]; omega
      have em : (W0 ++ (["Q"] : List Str)).map D.str = W0.map D.str ++ [.str "Q"] := by rw [List.map_append]; rfl
      rw [em]
      simp only [E]
      generalize rowsD rs = R
      generalize (rs.map Row.w).map D.str = X
      generalize W0.map D.str = Y at hlt
      simp -implicitDefEqProofs [K22, hz, gAppend, hlt]
    · refine Ret.sq (E (.fz (.str w)) (.ow (W0.map D.str))) ?_ (fin _ okW0 ⟨[], by simp⟩)
      simp only [E]
      generalize rowsD rs = R
      generalize (rs.map Row.w).map D.str = X
      generalize W0.map D.str = Y
      simp -implicitDefEqProofs [K22, hz]
end DL
namespace DL
open PySem PySem.Spec PyProof.Rows L2
theorem rises_pw : ∀ {l : List Nat}, rises l = true → l.Pairwise (· < ·)
  | [], _ => .nil
  | [a], _ => by simp
  | a :: b :: r, h => by
    rw [rises, Bool.and_eq_true, decide_eq_true_eq] at h
    have ih := rises_pw h.2
    refine List.pairwise_cons.mpr ⟨fun x hx => ?_, ih⟩
    rcases List.mem_cons.mp hx with z | z
    · rw [z]; exact h.1
    · have := (List.pairwise_cons.mp ih).1 x z; omega
theorem ssw_eq (l : List Nat) (b : Int) (hb : b % 2 = 1) : ssw l b = tx (61 :: l.filter (· ≠ 32)) := by
  unfold ssw
  simp only
  rw [if_neg (by omega)]
  have : ("=" : Str) = tx [61] := rfl
  rw [this, tx_app]; rfl
theorem ssw_head {l : List Nat} {b : Int} (h : (ssw l b).cps.toList.head? = some 61) : ssw l b = tx (61 :: l.filter (· ≠ 32)) := by
  have : ("=" : Str) = tx [61] := rfl
  unfold ssw at h ⊢
  simp only at h ⊢
  split at h
  · rename_i hb
    rw [if_pos hb]
    cases hq : setsL.find? (fun p => p.2 = tx (l.filter (· ≠ 32))) with
    | none => simp only; rw [this, tx_app]; rfl
    | some p =>
      rw [hq] at h
      simp only at h
      have ne : ∀ p ∈ setsL, p.1.cps.toList.head? ≠ some 61 := by decide +kernel
      exact (ne p (List.mem_of_find?_eq_some hq) h).elim
  · rename_i hb
    rw [if_neg hb, this, tx_app]; rfl
/-- the law's tail hangs on the lower bits alone -/
theorem tailR_bits {kept : Str} {width : Int} {fill : Nat} {side : Str} {strict : Bool} {b : Int} (h0 : 0 ≤ b) (h1 : b < 128) : tailR kept width fill side strict (b % 64 + 64) = tailR kept width fill side strict b := by
  unfold tailR
  have e1 : (b % 64 + 64) / 16 % 2 = b / 16 % 2 := by omega
  have e2 : (b % 64 + 64) / 32 % 2 = b / 32 % 2 := by omega
  rw [e1, e2]
/-- a spec of words with other signs -/
noncomputable def reSign (w : WSp) (g : List Nat) : WSp := { w with signs := if 32 ∈ w.signs then 32 :: g else g }
theorem reSign_ok {w : WSp} (h : w.Ok) {g : List Nat} (hg : g ≠ []) (hr : rises g = true) (hs : ∀ c ∈ g, c ∈ AN) : (reSign w g).Ok ∧ (reSign w g).signs ≠ [32] ∧ (reSign w g).signs.filter (· ≠ 32) = g ∧ (32 ∈ (reSign w g).signs ↔ 32 ∈ w.signs) := by
  have b0 := OkSg.blank hg (rises_pw hr) hs 0 (by decide)
  have b1 := OkSg.blank hg (rises_pw hr) hs 1 (by decide)
  have n32 : 32 ∉ g := fun z => by have := AN_low 32 (hs 32 z); omega
  have fg : g.filter (· ≠ 32) = g := List.filter_eq_self.mpr fun x hx => by
    have : x ≠ 32 := fun z => n32 (z ▸ hx)
    simpa using this
  by_cases hm : 32 ∈ w.signs
  · have e : (reSign w g).signs = 32 :: g := by unfold reSign; simp only; rw [if_pos hm]
    refine ⟨⟨by rw [e]; exact b1.1, h.2, h.3, h.4, h.5, h.6⟩, by rw [e]; exact b1.2, ?_, ?_⟩
    · rw [e, List.filter_cons_of_neg (by simp), fg]
    · rw [e]; simp [hm]
  · have e : (reSign w g).signs = g := by unfold reSign; simp only; rw [if_neg hm]
    refine ⟨⟨by rw [e]; exact b0.1, h.2, h.3, h.4, h.5, h.6⟩, by rw [e]; exact b0.2, by rw [e, fg], ?_⟩
    rw [e]; simp [hm, n32]
theorem reSign_rows {w : WSp} {g : List Nat} {b : Int} (h0 : 0 ≤ b) (h1 : b < 128) (hf : (reSign w g).signs.filter (· ≠ 32) = g) (hm : 32 ∈ (reSign w g).signs ↔ 32 ∈ w.signs) :
    (Spec.rows (b % 64 + 64) (.word (reSign w g))).map Row.w = ([("word" : Str), tx (61 :: g)] : List Str) ++ ((Spec.rows b (.word w)).map Row.w).drop 2 := by
  rw [rowsW_eq, rowsW_eq]
  have e1 : ssw (reSign w g).signs ((b % 64 + 64) / 64) = tx (61 :: g) := by
    rw [ssw_eq _ _ (by omega), hf]
  unfold restW
  rw [e1]
  have e2 : oi (32 ∈ (reSign w g).signs) [key "blank"] = oi (32 ∈ w.signs) [key "blank"] := by
    unfold oi
    by_cases z : 32 ∈ w.signs
    · rw [if_pos z, if_pos (hm.mpr z)]
    · rw [if_neg z, if_neg fun y => z (hm.mp y)]
  have e3 : tailR "left" (reSign w g).width (reSign w g).fill (reSign w g).side (reSign w g).strict (b % 64 + 64) = tailR "left" w.width w.fill w.side w.strict b := tailR_bits h0 h1
  rw [e2, e3]; rfl
/-- what the law asks of signs told one by one -/
theorem signs_core {w : WSp} (h : Spec.Ok (.word w)) {b : Int} (h0 : 0 ≤ b) (h1 : b < 128) {g : List Nat} (hg : g ≠ []) (hl : g.length ≤ 110) (hs : ∀ c ∈ g, c ∈ AN) (T : Str)
    (hT : T = Txt.join " " (([("word" : Str), tx (61 :: g)] : List Str) ++ ((Spec.rows b (.word w)).map Row.w).drop 2)) :
    OkT (([("word" : Str), tx (61 :: g)] : List Str) ++ ((Spec.rows b (.word w)).map Row.w).drop 2) ∧ (rises g = false → F__law_refused [.str T] = .ok (.fz (.int 1)))
    ∧ (rises g = true → F__law_refused [.str T] = .ok (.fz (.int (-1))) ∧ ∃ a t, F_read_form [.str T] = .ok (.ob "WordForm" wNs (wDs a t)) ∧ a.signs = if 32 ∈ w.signs then 32 :: g else g) := by
  have okR := okT_rows (.word w) h b
  have hlen := rows_len (.word w) h b
  have okT : OkT (([("word" : Str), tx (61 :: g)] : List Str) ++ ((Spec.rows b (.word w)).map Row.w).drop 2) := by
    have ow : OkWs "word" := ok_lit (by simp)
    have og : OkWs (tx (61 :: g)) := okws_list _ (by simp; omega) fun c hc => by
      rcases List.mem_cons.mp hc with z | z
      · rw [z]; decide +kernel
      · exact hs c z
    refine ⟨⟨by simp only [List.length_append, List.length_drop, List.length_map, List.length_cons, List.length_nil]; omega, fun x hx => ?_⟩, by simp, fun x hx => ?_⟩
    · rcases List.mem_append.mp hx with hx | hx
      · simp only [List.mem_cons, List.not_mem_nil, or_false] at hx
        rcases hx with rfl | rfl
        · have := ow.small; omega
        · have := og.small; omega
      · exact okR.small x (List.mem_of_mem_drop hx)
    · rcases List.mem_append.mp hx with hx | hx
      · simp only [List.mem_cons, List.not_mem_nil, or_false] at hx
        rcases hx with rfl | rfl
        · exact ow.sub
        · exact og.sub
      · exact okR.sub x (List.mem_of_mem_drop hx)
  refine ⟨okT, fun hr => ?_, fun hr => ?_⟩
  · rw [hT]
    refine ref_bad (read_bad (.word w) h b okT (a := 1) (x := tx (61 :: g)) (by rw [rows_eq]; simp) (fun j hj => ?_) rfl ?_)
    · have : j = 0 := by omega
      subst this
      rw [rowsW_eq]; rfl
    · rw [rowsW_eq]
      show mayR "word" [⟨"word", "kind", 0, 0⟩] ⟨ssw w.signs (b / 64), "signs", 0, 0⟩ (tx (61 :: g)) = false
      have e : mayR "word" [⟨"word", "kind", 0, 0⟩] ⟨ssw w.signs (b / 64), "signs", 0, 0⟩ (tx (61 :: g)) = (sgsN (tx (61 :: g))).isSome := by
        unfold mayR
        rw [if_neg (by simp), if_neg (by simp), if_neg (by simp), if_pos rfl]
      rw [e]
      have so : setOf (tx (61 :: g)) = none := by
        have : tx (61 :: g) = "=" ++ tx g := by
          have : ("=" : Str) = tx [61] := rfl
          rw [this, tx_app]; rfl
        rw [this]; exact setOf_eq
      unfold sgsN
      rw [so]
      simp only [tx_list, List.drop_succ_cons, List.drop_zero]
      rw [if_neg (by rintro ⟨_, _, z⟩; rw [hr] at z; cases z)]; rfl
  · obtain ⟨k1, k2, k3, k4⟩ := reSign_ok h.1 hg hr hs
    have hS : Spec.Ok (.word (reSign w g)) := ⟨k1, k2, h.2.2⟩
    have er := reSign_rows (w := w) (g := g) h0 h1 k3 k4
    have okT2 := okT
    rw [← er] at okT2
    obtain ⟨c, rg, hw⟩ := read_good (.word (reSign w g)) hS (b % 64 + 64) okT2
    rw [er, ← hT] at rg
    obtain ⟨a, t, rfl, ha⟩ := hw _ rfl
    exact ⟨ref_good rg, a, t, rg, ha⟩
end DL
namespace DL
open PySem PySem.Spec PyProof.Rows L2
theorem add_tx {a b : List Nat} (ha : a.length ≤ 400) (hb : b.length ≤ 400) : hAdd (.str (tx a)) (.str (tx b)) = some (.str (tx (a ++ b))) := by
  rw [ev_hAddS (by rw [tx_len, tx_len, sizeLine_eq]; omega), tx_app]
structure OkG (g : List Nat) : Prop where
  ne : g ≠ []
  len : g.length ≤ 110
  sub : ∀ c ∈ g, c ∈ AN
theorem asS_ix {j : Int} (h0 : 0 ≤ j) (h1 : j < 93) : ∃ x ∈ AN, hIx (.str asS) (.int (1 + j)) = some (.str (sgn x)) := by
  obtain ⟨k, hk⟩ : ∃ k : Nat, j = (k : Int) := ⟨j.toNat, by omega⟩
  have ha : asS = tx AS := (tx_eta asS).symm
  have hl : AN.length = 93 := AN_len
  have hlt : k < AN.length := by omega
  refine ⟨AN[k], List.getElem_mem hlt, ?_⟩
  rw [ha]
  refine hIx_tx (k := k + 1) (by omega) (by rw [AS_len]; omega) ?_
  have : AS = 32 :: AN := by decide +kernel
  rw [this, List.getElem?_cons_succ, List.getElem?_eq_getElem hlt]
theorem e_signs_right {w : WSp} (h : Spec.Ok (.word w)) {b : Int} (h0 : 0 ≤ b) (h1 : b < 128) (c : Int) (hw : ssw w.signs (b / 64) = tx (61 :: w.signs.filter (· ≠ 32))) : F__law_signs_right [w.d, .lst (rowsD (Spec.rows b (.word w))), .int c] = .ok (.fz (.bl true)) := by
  obtain ⟨wd, hwd⟩ : ∃ d, d = w.d := ⟨_, rfl⟩
  rw [← hwd]
  have core := fun g (G : OkG g) T hT => signs_core h h0 h1 G.ne G.len G.sub T hT
  have hlen := rows_len (.word w) h b
  have er := rowsW_eq w b
  unfold restW at er
  rw [hw] at er
  have hsl := h.1.signs.len
  have hfo := filt_of h.1.signs
  have hfn : w.signs.filter (· ≠ 32) ≠ [] := fun z => by
    rw [z] at hfo
    split at hfo
    · exact h.2.1 hfo
    · exact h.1.signs.ne hfo
  have hfl : (w.signs.filter (· ≠ 32)).length ≤ 95 := Nat.le_trans (List.length_filter_le _ _) hsl
  have hfs : ∀ x ∈ w.signs.filter (· ≠ 32), x ∈ AN := fun x hx => by
    obtain ⟨y1, y2⟩ := List.mem_filter.mp hx
    rcases mem_AS (h.1.signs.sub x y1) with z | z
    · simp [z] at y2
    · exact z
  generalize w.signs.filter (· ≠ 32) = f at *
  have hfp : 0 < f.length := List.length_pos_iff.mpr hfn
  generalize hrows : Spec.rows b (.word w) = rows at *
  have a1 : L2.atI (rowsD rows) 1 = some (Row.d ⟨tx (61 :: f), "signs", 0, 0⟩) := by rw [er]; exact ev_atI1
  have cs1 : cutS (tx (61 :: f)) (some 1) none = tx f := by
    have := cutS_from (l := 61 :: f) (t := 1)
    simpa using this
  have ss1 := ev_sliS (z := tx (61 :: f)) (l := some 1) (h := none) (small_len (by rw [tx_len]; simp; omega))
  have hlf : hLen [.str (tx f)] = some (.int f.length) := by rw [hLenS (by rw [tx_len]; omega), tx_len]
  have K251 := e_pick c 251 (f.length : Int) (by decide) (by omega)
  have K252 := e_pick c 252 ((f.length : Int) + 1) (by decide) (by omega)
  have K253 := e_pick c 253 4 (by decide) (by decide)
  have K254 := e_pick c 254 93 (by decide) (by decide)
  obtain ⟨a, ha, hal⟩ : ∃ a : Nat, pick c 251 (f.length : Int) = (a : Int) ∧ a < f.length := ⟨(pick c 251 (f.length : Int)).toNat, by have := pick_lo c 251 (f.length : Int) (by omega); omega, by have := pick_hi c 251 (f.length : Int) (by omega); have := pick_lo c 251 (f.length : Int) (by omega); omega⟩
  obtain ⟨t, ht, htl⟩ : ∃ t : Nat, pick c 252 ((f.length : Int) + 1) = (t : Int) ∧ t ≤ f.length := ⟨(pick c 252 ((f.length : Int) + 1)).toNat, by have := pick_lo c 252 ((f.length : Int) + 1) (by omega); omega, by have := pick_hi c 252 ((f.length : Int) + 1) (by omega); have := pick_lo c 252 ((f.length : Int) + 1) (by omega); omega⟩
  rw [ha] at K251
  rw [ht] at K252
  obtain ⟨x, mx, qx⟩ := asS_ix (j := pick c 254 93) (pick_lo _ _ _ (by decide)) (pick_hi _ _ _ (by decide))
  have ix : hIx (.str (tx f)) (.int (a : Int)) = some (.str (sgn f[a])) := hIx_tx rfl (by omega) (List.getElem?_eq_getElem hal)
  have S := fun l u => ev_sliS (z := tx f) (l := l) (h := u) (small_len (by rw [tx_len]; omega))
  have z1 := S none (some (t : Int)); rw [cutS_upto] at z1
  have z2 := S (some (t : Int)) none; rw [cutS_from] at z2
  have z3 := S none (some (a : Int)); rw [cutS_upto] at z3
  have z4 : sliS (.str (tx f)) (some ((a : Int) + 1)) (some ((a : Int) + 2)) = some (.str (tx ((f.take (a + 2)).drop (a + 1)))) := by
    rw [S, show (a : Int) + 1 = ((a + 1 : Nat) : Int) by omega, show (a : Int) + 2 = ((a + 2 : Nat) : Int) by omega, cutS_mid]
  have z5 : sliS (.str (tx f)) (some ((a : Int) + 2)) none = some (.str (tx (f.drop (a + 2)))) := by
    rw [S, show (a : Int) + 2 = ((a + 2 : Nat) : Int) by omega, cutS_from]
  have l1 : (f.take t).length ≤ 95 := by rw [List.length_take]; omega
  have l2 : (f.drop t).length ≤ 95 := by rw [List.length_drop]; omega
  have l12 : (f.take t).length + (f.drop t).length = f.length := by rw [List.length_take, List.length_drop]; omega
  have l3 : (f.take a).length ≤ 95 := by rw [List.length_take]; omega
  have l4 : ((f.take (a + 2)).drop (a + 1)).length ≤ 1 := by rw [List.length_drop, List.length_take]; omega
  have l5 : (f.drop (a + 2)).length ≤ 95 := by rw [List.length_drop]; omega
  have l35 : (f.take a).length + (f.drop (a + 2)).length ≤ f.length := by rw [List.length_take, List.length_drop]; omega
  have s1 : ∀ y ∈ f.take t, y ∈ AN := fun y hy => hfs y (List.mem_of_mem_take hy)
  have s2 : ∀ y ∈ f.drop t, y ∈ AN := fun y hy => hfs y (List.mem_of_mem_drop hy)
  have s3 : ∀ y ∈ f.take a, y ∈ AN := fun y hy => hfs y (List.mem_of_mem_take hy)
  have s4 : ∀ y ∈ (f.take (a + 2)).drop (a + 1), y ∈ AN := fun y hy => hfs y (List.mem_of_mem_take (List.mem_of_mem_drop hy))
  have s5 : ∀ y ∈ f.drop (a + 2), y ∈ AN := fun y hy => hfs y (List.mem_of_mem_drop hy)
  have sA : f[a] ∈ AN := hfs _ (List.getElem_mem hal)
  have gA : ∀ v ∈ AN, OkG (f.take t ++ [v] ++ f.drop t) := fun v hv => ⟨by simp, by simp only [List.length_append, List.length_cons, List.length_nil]; omega, fun y hy => by
    rcases List.mem_append.mp hy with hy | hy
    · rcases List.mem_append.mp hy with hy | hy
      · exact s1 y hy
      · rw [List.mem_singleton.mp hy]; exact hv
    · exact s2 y hy⟩
  have gB : OkG (f.take a ++ (f.take (a + 2)).drop (a + 1) ++ [f[a]] ++ f.drop (a + 2)) := ⟨by simp, by simp only [List.length_append, List.length_cons, List.length_nil]; omega, fun y hy => by
    rcases List.mem_append.mp hy with hy | hy
    · rcases List.mem_append.mp hy with hy | hy
      · rcases List.mem_append.mp hy with hy | hy
        · exact s3 y hy
        · exact s4 y hy
      · rw [List.mem_singleton.mp hy]; exact sA
    · exact s5 y hy⟩
  have ad1 : ∀ v, hAdd (.str (tx (f.take t))) (.str (sgn v)) = some (.str (tx (f.take t ++ [v]))) := fun v => add_tx (b := [v]) (by omega) (by simp)
  have ad2 : ∀ v, hAdd (.str (tx (f.take t ++ [v]))) (.str (tx (f.drop t))) = some (.str (tx (f.take t ++ [v] ++ f.drop t))) := fun v => add_tx (by simp; omega) (by omega)
  have ad3 := add_tx (a := f.take a) (b := (f.take (a + 2)).drop (a + 1)) (by omega) (by omega)
  have ad4 : hAdd (.str (tx (f.take a ++ (f.take (a + 2)).drop (a + 1)))) (.str (sgn f[a])) = some (.str (tx (f.take a ++ (f.take (a + 2)).drop (a + 1) ++ [f[a]]))) := add_tx (b := [f[a]]) (by simp only [List.length_append]; omega) (by simp)
  have ad5 := add_tx (a := f.take a ++ (f.take (a + 2)).drop (a + 1) ++ [f[a]]) (b := f.drop (a + 2)) (by simp only [List.length_append, List.length_cons, List.length_nil]; omega) (by omega)
  let E : Cell → Cell → DEnv := fun c7 c8 => [.fz wd, .fz (.lst (rowsD rows)), .fz (.int c), .fz (.str (tx f)), .fz (.int a), .fz (.int t), .fz (.int (pick c 253 4)), c7, c8, .no]
  -- what stands behind the signs
  have rest : ∀ g, OkG g → ∀ b7 : Cell, b7 = .fz (.str (tx g)) → Ret (sSeq (sSet 8 (mMap Cell.fz (gBM isStrD hJoin (gC (.str " ")) (aCons (mOpt Cell.toD (mMap Cell.ow (mOpt2 hCat (mOpt Cell.toD (mMap Cell.ow (mOpt okLen (aCons (gC (.str "word")) (aCons (mOpt2 hAdd (gC (.str "=")) (gVar 7)) aNil))))) (mOpt Cell.toD (gComp (mOpt hLst (mOpt Cell.toD (gSlL (gVar 1) (mPart (some (gC (.int 2)))) (mPart none)))) (gtName 9) mYes (mOpt2 hIx (gVar 9) (gC (.int 0))) [9]))))) aNil))))
    (sSeq (sIf (mNot (mOpt hBl (mOpt Cell.toD (gCall F__law_rises (aCons (gVar 7) aNil))))) (sRet (mMap Cell.fz (mMap D.bl (mOpt2 hEqS (mOpt Cell.toD (gCall F__law_refused (aCons (gVar 8) aNil))) (gC (.int 1)))))) sNil)
    (sRet (mMap Cell.fz (vAnd (mMap D.bl (mOpt2 hEqS (mOpt Cell.toD (gCall F__law_refused (aCons (gVar 8) aNil))) (mOpt hNeg (gC (.int 1))))) (mMap D.bl (mOpt2 hEqS (mOpt (hFld ["WordForm"] "signs") (mOpt Cell.toD (gCall F_read_form (aCons (gVar 8) aNil)))) (mOpt2 hAdd (mOpt2 hStrMul (gC (.str " ")) (mOpt hInt (aCons (mMap D.bl (mOpt2 hInQ (gC (.str " ")) (mOpt2 hIx (gVar 0) (gC (.int 1))))) aNil))) (gVar 7)))))))))
    (E b7 .no) (.fz (.bl true)) := by
    rintro g G b7 rfl
    obtain ⟨okT, cN, cY⟩ := core g G _ rfl
    have hj := hJoin_ok okT
    have wc := words_comp (rs := rows.drop 2) (env := E (.fz (.str (tx g))) .no) (i := 9) (c := .no) (r := mOpt hLst (mOpt Cell.toD (gSlL (gVar 1) (mPart (some (gC (.int 2)))) (mPart none)))) (by
      have cu := cutD_from (ds := rowsD rows) (a := 2)
      rw [← List.map_drop] at cu
      have cu' : cutD (rowsD rows) (some 2) none = rowsD (rows.drop 2) := cu
      simp only [E]
      generalize rowsD (rows.drop 2) = Y at cu' ⊢
      generalize rowsD rows = R at cu' ⊢
      simp -implicitDefEqProofs [cu', hLst]) rfl (.inl rfl) (by rw [List.length_drop]; omega) (fun x => rfl)
    rw [List.map_drop] at wc
    have e61 : hAdd (.str "=") (.str (tx g)) = some (.str (tx (61 :: g))) := add_tx (a := [61]) (b := g) (by simp) (by have := G.len; omega)
    have hc : hCat (.lst [.str "word", .str (tx (61 :: g))]) (.lst (((rows.map Row.w).drop 2).map D.str)) = some ((([("word" : Str), tx (61 :: g)] : List Str) ++ (rows.map Row.w).drop 2).map D.str) := by
      rw [ev_hCat (by rw [List.length_map, List.length_drop, List.length_map, sizeLine_eq]; simp only [List.length_cons, List.length_nil]; omega), List.map_append]; rfl
    have rz := e_rises (l := g) (by have := G.len; omega)
    generalize hT : Txt.join " " (([("word" : Str), tx (61 :: g)] : List Str) ++ (rows.map Row.w).drop 2) = T at *
    refine Ret.sq (E (.fz (.str (tx g))) (.fz (.str T))) ?_ ?_
    · have g7 : gVar 7 (E (.fz (.str (tx g))) .no) = .ok (.str (tx g), E (.fz (.str (tx g))) .no) := rfl
      have fst : (mOpt Cell.toD (mMap Cell.ow (mOpt okLen (aCons (gC (.str "word")) (aCons (mOpt2 hAdd (gC (.str "=")) (gVar 7)) aNil))))) (E (.fz (.str (tx g))) .no) = .ok (.lst [.str "word", .str (tx (61 :: g))], E (.fz (.str (tx g))) .no) := by
        simp -implicitDefEqProofs only [ev_mOpt, ev_mMap, ev_aCons, ev_gC, ev_mOpt2, g7, Res.bind_ok, e61, optR_some, Res.map_ok, ev_aNil, ev_okLen2, ev_toD_ow]
      rw [ev_sSet, ev_mMap, ev_gBM, ev_gC]
      simp -implicitDefEqProofs only [Res.bind_ok, isStrD, if_true]
      rw [ev_aCons, ev_mOpt, ev_mMap, ev_mOpt2, fst]
      simp -implicitDefEqProofs only [Res.bind_ok]
      rw [ev_mOpt, wc]
      generalize ((rows.map Row.w).drop 2).map D.str = Y at hc
      generalize (([("word" : Str), tx (61 :: g)] : List Str) ++ (rows.map Row.w).drop 2).map D.str = Z at hc hj
      simp -implicitDefEqProofs only [Res.bind_ok, Res.map_ok, ev_toD_ow, optR_some, hc, ev_aNil, hj]
      rfl
    cases hr : rises g with
    | false =>
      rw [hr] at rz
      refine Ret.first ?_
      have := cN hr
      simp only [E]
      generalize rowsD rows = R
      simp -implicitDefEqProofs [Ret, rz, this]
    | true =>
      rw [hr] at rz
      obtain ⟨c1, a', t', c2, c3⟩ := cY hr
      refine Ret.sq (E (.fz (.str (tx g))) (.fz (.str T))) ?_ (Ret.ret ?_)
      · simp only [E]
        generalize rowsD rows = R
        simp -implicitDefEqProofs [rz]
      · have hfd : hFld ["WordForm"] "signs" (.obj "WordForm" wNs (wDs a' t')) = some (.str (tx (if 32 ∈ w.signs then 32 :: g else g))) := by
          rw [← c3]
          show (if ("WordForm" : Str) ∈ (["WordForm"] : List Str) then lookF "signs" wNs (wDs a' t') else none) = _
          rw [if_pos (by simp)]
          simp [wNs, wDs, lookF]
        have q := hInQ_blank w.signs
        have m1 : ∀ n : Nat, n < 2 → hStrMul (.str " ") (.int (n : Int)) = some (.str (tx (List.replicate n 32))) := fun n hn => by
          have e1 : (" " : Str).length = 1 := rfl
          rw [hStrMul, if_pos (by rw [e1, sizeLine_eq]; omega)]
          match n, hn with
          | 0, _ => rfl
          | 1, _ => rfl
        have hd1 : hIx wd (.int 1) = some (.str (tx w.signs)) := by rw [hwd]; show L2.atI _ 1 = _; exact ev_atI1
        simp only [E]
        generalize rowsD rows = R
        by_cases hm : 32 ∈ w.signs
        · have m := m1 1 (by decide)
          have ad := add_tx (a := List.replicate 1 32) (b := g) (by simp) (by have := G.len; omega)
          have e : List.replicate 1 32 ++ g = 32 :: g := rfl
          rw [e] at ad
          rw [if_pos hm] at hfd
          have q' : hInQ (.str " ") (.str (tx w.signs)) = some true := by rw [q]; simp [hm]
          have m' : hStrMul (.str " ") (.int 1) = some (.str (tx (List.replicate 1 32))) := m
          generalize tx (List.replicate 1 32) = B at m' ad
          generalize tx (32 :: g) = C at ad hfd
          simp -implicitDefEqProofs [c1, c2, hfd, hd1, q', m', ad]
        · have m := m1 0 (by decide)
          have ad := add_tx (a := List.replicate 0 32) (b := g) (by simp) (by have := G.len; omega)
          have e : List.replicate 0 32 ++ g = g := rfl
          rw [e] at ad
          rw [if_neg hm] at hfd
          have q' : hInQ (.str " ") (.str (tx w.signs)) = some false := by rw [q]; simp [hm]
          have m' : hStrMul (.str " ") (.int 0) = some (.str (tx (List.replicate 0 32))) := m
          generalize tx (List.replicate 0 32) = B at m' ad
          simp -implicitDefEqProofs [c1, c2, hfd, hd1, q', m', ad]
  unfold F__law_signs_right
  refine Ret.runs rfl (Ret.sq [.fz wd, .fz (.lst (rowsD rows)), .fz (.int c), .fz (.str (tx f)), .no, .no, .no, .no, .no, .no] ?_ (Ret.sq [.fz wd, .fz (.lst (rowsD rows)), .fz (.int c), .fz (.str (tx f)), .fz (.int a), .no, .no, .no, .no, .no] ?_
    (Ret.sq [.fz wd, .fz (.lst (rowsD rows)), .fz (.int c), .fz (.str (tx f)), .fz (.int a), .fz (.int t), .no, .no, .no, .no] ?_ (Ret.sq (E .no .no) ?_ (Ret.sq (E (.fz (.str (tx (f.take t ++ [x] ++ f.drop t)))) .no) ?_ ?_)))))
  · simp only [Row.d] at a1
    generalize rowsD rows = R at a1
    simp -implicitDefEqProofs [gIxN, cLst, hLst, a1, ss1, cs1]
  · generalize rowsD rows = R
    simp -implicitDefEqProofs [hlf, K251]
  · generalize rowsD rows = R
    simp -implicitDefEqProofs [hlf, K252]
  · simp only [E]
    generalize rowsD rows = R
    simp -implicitDefEqProofs [K253]
  · have A1 := ad1 x
    have A2 := ad2 x
    simp only [E]
    generalize rowsD rows = R
    generalize tx (f.take t ++ [x] ++ f.drop t) = X1 at A2
    generalize tx (f.take t ++ [x]) = X2 at A1 A2
    generalize tx (f.take t) = X3 at A1 z1
    generalize tx (f.drop t) = X4 at A2 z2
    simp -implicitDefEqProofs [z1, z2, K254, qx, A1, A2]
  by_cases w0 : pick c 253 4 = 0
  · refine Ret.sq (E (.fz (.str (tx (f.take t ++ [f[a]] ++ f.drop t)))) .no) ?_ (Ret.sq (E (.fz (.str (tx (f.take t ++ [f[a]] ++ f.drop t)))) .no) ?_ (rest _ (gA _ sA) _ rfl))
    · have A1 := ad1 f[a]
      have A2 := ad2 f[a]
      simp only [E]
      generalize rowsD rows = R
      generalize tx (f.take t ++ [x] ++ f.drop t) = X0
      generalize tx (f.take t ++ [f[a]] ++ f.drop t) = X1 at A2
      generalize tx (f.take t ++ [f[a]]) = X2 at A1 A2
      generalize tx (f.take t) = X3 at A1 z1
      generalize tx (f.drop t) = X4 at A2 z2
      generalize sgn f[a] = X5 at ix A1
      simp -implicitDefEqProofs [w0, z1, z2, ix, A1, A2]
    · simp only [E]
      generalize rowsD rows = R
      generalize tx (f.take t ++ [f[a]] ++ f.drop t) = X1
      simp -implicitDefEqProofs [w0]
  · by_cases w1 : pick c 253 4 = 1
    · refine Ret.sq (E (.fz (.str (tx (f.take t ++ [x] ++ f.drop t)))) .no) ?_ (Ret.sq (E (.fz (.str (tx (f.take a ++ (f.take (a + 2)).drop (a + 1) ++ [f[a]] ++ f.drop (a + 2))))) .no) ?_ (rest _ gB _ rfl))
      · simp only [E]
        generalize rowsD rows = R
        generalize tx (f.take t ++ [x] ++ f.drop t) = X1
        simp -implicitDefEqProofs [w0]
      · simp only [E]
        generalize rowsD rows = R
        generalize tx (f.take t ++ [x] ++ f.drop t) = X0
        generalize tx (f.take a ++ (f.take (a + 2)).drop (a + 1) ++ [f[a]] ++ f.drop (a + 2)) = X1 at ad5
        generalize tx (f.take a ++ (f.take (a + 2)).drop (a + 1) ++ [f[a]]) = X2 at ad4 ad5
        generalize tx (f.take a ++ (f.take (a + 2)).drop (a + 1)) = X3 at ad3 ad4
        generalize tx (f.take a) = X4 at ad3 z3
        generalize tx ((f.take (a + 2)).drop (a + 1)) = X5 at ad3 z4
        generalize tx (f.drop (a + 2)) = X6 at ad5 z5
        generalize sgn f[a] = X7 at ix ad4
        simp -implicitDefEqProofs [w1, z3, z4, z5, ix, ad3, ad4, ad5]
    · refine Ret.sq (E (.fz (.str (tx (f.take t ++ [x] ++ f.drop t)))) .no) ?_ (Ret.sq (E (.fz (.str (tx (f.take t ++ [x] ++ f.drop t)))) .no) ?_ (rest _ (gA _ mx) _ rfl))
      · simp only [E]
        generalize rowsD rows = R
        generalize tx (f.take t ++ [x] ++ f.drop t) = X1
        simp -implicitDefEqProofs [w0]
      · simp only [E]
        generalize rowsD rows = R
        generalize tx (f.take t ++ [x] ++ f.drop t) = X1
        simp -implicitDefEqProofs [w1]
end DL
namespace DL
open PySem PySem.Spec PyProof.Rows L2
theorem words_comp2 {rs : List Row} {env0 env : DEnv} {i : Nat} {c : Cell} {r : M (List D)} (hr : r env0 = .ok (rowsD rs, env)) (hc : env[i]? = some c) (hp : Pl c) (hl : rs.length ≤ 1000)
    (hi : ∀ x, gVar i (env.set i (.fz x)) = .ok (x, env.set i (.fz x))) : gComp r (gtName i) mYes (mOpt2 hIx (gVar i) (gC (.int 0))) [i] env0 = .ok (.ow ((rs.map Row.w).map D.str), env) := by
  have h := words_comp (r := fun e => .ok (rowsD rs, e)) (env := env) rfl hc hp hl hi
  rw [ev_gComp] at h ⊢
  rw [hr]; exact h
theorem spec_d0 (s : Spec) : hIx s.d (.int 0) = some (.str s.kind) := by
  cases s with
  | num s => show L2.atI _ 0 = _; exact ev_atI0
  | word s => show L2.atI _ 0 = _; exact ev_atI0
  | cho s => show L2.atI _ 0 = _; exact ev_atI0
theorem e_right (c o : Int) : F__law_right [.int c, .int o] = .ok (.fz (.bl true)) := by
  have K97 := e_pick c 97 3 (by decide) (by decide)
  have K94 := e_pick o 94 128 (by decide) (by decide)
  have b0 := pick_lo o 94 128 (by decide)
  have b1 := pick_hi o 94 128 (by decide)
  obtain ⟨s, hs, qs⟩ := e_any_spec c o (pick c 97 3)
  have qr := e_word_rows s hs (pick o 94 128)
  generalize pick o 94 128 = b at *
  have okT := okT_rows s hs b
  have hlen := rows_len s hs b
  obtain ⟨cf, rg, _⟩ := read_good s hs b okT
  have rf := ref_good rg
  have hj := hJoin_ok okT
  have one := fun t ht => e_one_right s hs b o t ht
  have d0 := spec_d0 s
  generalize hT : Txt.join " " ((s.rows b).map Row.w) = T at *
  let E : Cell → DEnv := fun c5 => [.fz (.int c), .fz (.int o), .fz s.d, .fz (.lst (rowsD (s.rows b))), .fz (.str T), c5, .no]
  unfold F__law_right
  refine Ret.runs rfl (Ret.sq [.fz (.int c), .fz (.int o), .fz s.d, .no, .no, .no, .no] ?_ (Ret.sq [.fz (.int c), .fz (.int o), .fz s.d, .ow (rowsD (s.rows b)), .no, .no, .no] ?_ (Ret.sq (E .no) ?_ (Ret.sq (E .no) ?_ ?_))))
  · generalize s.d = sd at qs
    simp -implicitDefEqProofs [K97, qs]
  · generalize s.d = sd at qr
    generalize rowsD (s.rows b) = R at qr
    simp -implicitDefEqProofs [K94, qr]
  · have wc := words_comp2 (rs := s.rows b) (env0 := [.fz (.int c), .fz (.int o), .fz s.d, .ow (rowsD (s.rows b)), .no, .no, .no]) (env := [.fz (.int c), .fz (.int o), .fz s.d, .fz (.lst (rowsD (s.rows b))), .no, .no, .no]) (i := 6) (c := .no) (r := mOpt hLst (gVar 3)) (by
      generalize rowsD (s.rows b) = R
      generalize s.d = sd
      simp -implicitDefEqProofs [hLst]) rfl (.inl rfl) (by omega) (fun x => rfl)
    rw [ev_sSet, ev_mMap, ev_gBM, ev_gC]
    simp -implicitDefEqProofs only [Res.bind_ok, isStrD, if_true]
    rw [ev_aCons, ev_mOpt, wc]
    generalize ((s.rows b).map Row.w).map D.str = Y at hj
    simp -implicitDefEqProofs only [Res.bind_ok, Res.map_ok, ev_toD_ow, optR_some, ev_aNil, hj]
    rfl
  · simp only [E]
    generalize rowsD (s.rows b) = R
    generalize s.d = sd
    simp -implicitDefEqProofs [rf]
  obtain ⟨e', qf, c5, hc5, rfl⟩ := forL_run (g := gtName 5) (T := sIf (mNot (mOpt hBl (mOpt Cell.toD (gCall F__law_one_right (aCons (gVar 3) (aCons (gVar 1) (aCons (mOpt2 hAdd (gC (.int 300)) (mOpt2 hMul (gC (.int 30)) (gVar 5))) aNil))))))) (sRet (mMap Cell.fz (gC (.bl false)))) sNil) (fun _ e => ∃ c5, Pl c5 ∧ e = E c5) (rngD 0 8) 0 (E .no) ⟨.no, .inl rfl, rfl⟩ (by
    rintro i hi e ⟨c5, hc5, rfl⟩
    have hi' : i < 8 := by rw [rngD_len] at hi; exact hi
    have ex : (rngD 0 8)[i]'hi = .int (i : Int) := by simp [rngD]
    have m := ev_hMul (a := 30) (b := (i : Int)) (.inl (by decide))
    have on := one (300 + 30 * (i : Int)) (by omega)
    refine ⟨E (.fz (.int (i : Int))), E (.fz (.int (i : Int))), ?_, .inl ?_, .fz (.int (i : Int)), .inr ⟨_, rfl⟩, rfl⟩
    · show gtName 5 ((rngD 0 8)[i]'hi) (E c5) = _
      rw [ex]
      simp only [E]
      generalize rowsD (s.rows b) = R
      generalize s.d = sd
      simp -implicitDefEqProofs [setC_pl hc5]
    · simp only [E]
      generalize rowsD (s.rows b) = R at on
      generalize s.d = sd
      simp -implicitDefEqProofs [m, on])
  refine Ret.sq (E c5) ?_ (Ret.sq (E c5) ?_ (Ret.ret ?_))
  · rw [ev_sFor]
    have hr := hRng_ok (n := 8) (by decide)
    have : (mOpt hRng1 (aCons (gC (.int 8)) aNil)) (E .no) = .ok (rngD 0 8, E .no) := by
      have hr : hRng1 [.int 8] = some (rngD 0 8) := hr
      simp -implicitDefEqProofs only [ev_mOpt, ev_aCons, ev_gC, Res.bind_ok, ev_aNil, Res.map_ok, hr, optR_some]
    rw [this]; exact qf
  · cases s with
    | num s =>
      simp only [E]
      generalize rowsD (Spec.rows b (.num s)) = R
      have d0 : hIx (Spec.d (.num s)) (.int 0) = some (.str "number") := d0
      generalize Spec.d (.num s) = sd at d0
      simp -implicitDefEqProofs [d0]
    | cho s =>
      simp only [E]
      generalize rowsD (Spec.rows b (.cho s)) = R
      have d0 : hIx (Spec.d (.cho s)) (.int 0) = some (.str "choice") := d0
      generalize Spec.d (.cho s) = sd at d0
      simp -implicitDefEqProofs [d0]
    | word w =>
      have a1 : L2.atI (rowsD (Spec.rows b (.word w))) 1 = some (Row.d ⟨ssw w.signs (b / 64), "signs", 0, 0⟩) := by
        rw [rowsW_eq]; exact ev_atI1
      have ow : OkWs (ssw w.signs (b / 64)) := ok_ssw hs.1.signs (b / 64)
      have d0 : hIx (Spec.d (.word w)) (.int 0) = some (.str "word") := d0
      have dw : Spec.d (.word w) = w.d := rfl
      obtain ⟨x0, xr, hx⟩ : ∃ x0 xr, (ssw w.signs (b / 64)).cps.toList = x0 :: xr := by
        have := sgsN_ssw hs.1.signs hs.2.1 (b / 64)
        cases hq : (ssw w.signs (b / 64)).cps.toList with
        | cons a r => exact ⟨a, r, rfl⟩
        | nil =>
          have e : ssw w.signs (b / 64) = tx [] := by rw [← hq, tx_eta]
          rw [e] at this
          have n0 : sgsN (tx []) = none := by decide +kernel
          rw [n0] at this; cases this
      have hx0 : hIx (.str (ssw w.signs (b / 64))) (.int 0) = some (.str (sgn x0)) := by
        have e : ssw w.signs (b / 64) = tx (x0 :: xr) := by rw [← hx, tx_eta]
        have := ow.small
        rw [e] at this ⊢
        rw [tx_len] at this
        exact hIx_tx rfl (by omega) rfl
      have s61 : (sgn x0 = "=") = (x0 = 61) := by
        apply propext
        exact ⟨fun h => by have := tx_inj (a := [x0]) (b := [61]) h; simpa using this, fun h => by rw [h]; rfl⟩
      simp only [Row.d] at a1
      by_cases h61 : x0 = 61
      · have sr := e_signs_right hs b0 b1 c (ssw_head (by rw [hx, h61]; rfl))
        rw [← dw] at sr
        have e61 : sgn x0 = "=" := by rw [s61]; exact h61
        rw [e61] at hx0
        simp only [E]
        generalize rowsD (Spec.rows b (.word w)) = R at a1 sr
        generalize Spec.d (.word w) = sd at d0 sr
        simp -implicitDefEqProofs [d0, gIxN, cLst, hLst, a1, hx0, sr]
      · simp only [E]
        generalize rowsD (Spec.rows b (.word w)) = R at a1
        generalize Spec.d (.word w) = sd at d0
        simp -implicitDefEqProofs [d0, gIxN, cLst, hLst, a1, hx0, s61, h61]
  · simp only [E]
    generalize rowsD (s.rows b) = R
    generalize s.d = sd
    simp -implicitDefEqProofs [rf]
theorem e_cell_at (ns : List Int) (k : Int) (hk : 0 ≤ k) : ∃ c : Int, F__law_cell_at [.rol ns, .int k] = .ok (.fz (.int c)) := by
  have hl : hLst (.rol ns) = some (ns.map D.int) := rfl
  have ll : (ns.map D.int).length = ns.length := List.length_map ..
  unfold F__law_cell_at
  by_cases h : k < (ns.length : Int)
  · obtain ⟨c, mc, qc⟩ := ix_int (xs := ns) (j := k) hk h
    refine ⟨c, Ret.runs rfl (Ret.first ?_)⟩
    generalize ns.map D.int = X at hl ll qc
    simp -implicitDefEqProofs [Ret, gLenN, gIxN, cLst, hl, ll, h, qc]
  · refine ⟨0, Ret.runs rfl (Ret.sq [.fz (.rol ns), .fz (.int k)] ?_ (Ret.ret ?_))⟩
    · generalize ns.map D.int = X at hl ll
      simp -implicitDefEqProofs [gLenN, cLst, hl, ll, h]
    · simp -implicitDefEqProofs
theorem plain_law (ns : List Int) : F_law [.rol ns] = .ok (.fz (.bl true)) := by
  have hl : hLst (.rol ns) = some (ns.map D.int) := rfl
  have ll : (ns.map D.int).length = ns.length := List.length_map ..
  obtain ⟨n, hn, hn6⟩ : ∃ n : Nat, (if (if (ns.length : Int) / 2 < 6 then (ns.length : Int) / 2 else 6) > 1 then (if (ns.length : Int) / 2 < 6 then (ns.length : Int) / 2 else 6) else 1) = (n : Int) ∧ n ≤ 6 := by
    refine ⟨(if (if (ns.length : Int) / 2 < 6 then (ns.length : Int) / 2 else 6) > 1 then (if (ns.length : Int) / 2 < 6 then (ns.length : Int) / 2 else 6) else 1).toNat, ?_, ?_⟩ <;> split <;> split <;> omega
  have hr := hRng_ok (n := n) (by omega)
  obtain ⟨e', qf, c1, hc1, rfl⟩ := forL_run (g := gtName 1) (T := sIf (mNot (mOpt hBl (mOpt Cell.toD (gCall F__law_right (aCons (mOpt Cell.toD (gCall F__law_cell_at (aCons (gVar 0) (aCons (mOpt2 hMul (gC (.int 2)) (gVar 1)) aNil)))) (aCons (mOpt Cell.toD (gCall F__law_cell_at (aCons (gVar 0) (aCons (mOpt2 hAdd (mOpt2 hMul (gC (.int 2)) (gVar 1)) (gC (.int 1))) aNil)))) aNil)))))) (sRet (mMap Cell.fz (gC (.bl false)))) sNil) (fun _ e => ∃ c1, Pl c1 ∧ e = [.fz (.rol ns), c1]) (rngD 0 n) 0 [.fz (.rol ns), .no] ⟨.no, .inl rfl, rfl⟩ (by
    rintro i hi e ⟨c1, hc1, rfl⟩
    have ex : (rngD 0 n)[i] = .int (i : Int) := by simp [rngD]
    have m := ev_hMul (a := 2) (b := (i : Int)) (.inl (by decide))
    obtain ⟨x, hx⟩ := e_cell_at ns (2 * (i : Int)) (by omega)
    obtain ⟨y, hy⟩ := e_cell_at ns (2 * (i : Int) + 1) (by omega)
    have rr := e_right x y
    refine ⟨[.fz (.rol ns), .fz (.int (i : Int))], [.fz (.rol ns), .fz (.int (i : Int))], ?_, .inl ?_, .fz (.int (i : Int)), .inr ⟨_, rfl⟩, rfl⟩
    · rw [ex]; simp -implicitDefEqProofs [setC_pl hc1]
    · simp -implicitDefEqProofs [m, hx, hy, rr])
  unfold F_law
  refine Ret.runs rfl (Ret.sq [.fz (.rol ns), c1] ?_ (Ret.ret ?_))
  · show sFor _ _ _ [.fz (.rol ns), .no] = _
    rw [ev_sFor]
    have : (mOpt hRng1 (aCons (mOpt hMax2 (aCons (gC (.int 1)) (aCons (mOpt hMin2 (aCons (gC (.int 6)) (aCons (mOpt2 hFdiv (gLenN 0) (gC (.int 2))) aNil))) aNil))) aNil)) [.fz (.rol ns), .no] = .ok (rngD 0 n, [.fz (.rol ns), .no]) := by
      generalize ns.map D.int = X at hl ll
      simp -implicitDefEqProofs only [ev_mOpt, ev_aCons, ev_gC, Res.bind_ok, ev_aNil, Res.map_ok, ev_mOpt2, gLenN, List.getElem?_cons_zero, Option.bind_some, cLst, hl, optR_some, ll, ev_hFdiv]
      rw [if_pos (by omega)]
      simp -implicitDefEqProofs only [optR_some, Res.map_ok, Res.bind_ok, ev_hMin2, ev_hMax2]
      rw [hn, hr]; rfl
    rw [this]; exact qf
  · simp -implicitDefEqProofs
end DL
namespace DL
open PySem PySem.Spec PyProof.Rows L2
theorem exk_mk {K : Fg} {mg : Str → Option Value} {c base_ fl qual : Str} {st : Stmt} {C f PC : Addr} {mc : Value} {nm q : Str} {N : Addr} {bs bm : List Value} {sn : List Str} {sub : List Value} {ab : Bool} {col : Option Bool} {dd : Option Addr} {k0 k1 k2 k3 k5 : Option Value}
    (a : mg c = some (.ref C)) (b : mg base_ = some (.ref PC)) (xl : K.lookup C = some (excClassObj nm q C N bs bm true sn sub ab col dd k0 k1 k2 k3 k5 "ValueError.__new__")) (xr : PySem.HandSPX.refsVE bm = true)
    (sa : PySem.W.findIn K (.ref C) "__setattr__" = some (some (.builtin "object.__setattr__"))) (ex : PySem.W.subIn K (.ref C) (.type "BaseException") = some true) (ty : PySem.W.typeIn K (.ref C) = some (.type "type")) (kC : PySem.W.keepIn K (.ref C) = true)
    (ii : PySem.W.findIn K (.ref C) "__init__" = some (some (.ref f))) (ti : PySem.W.typeIn K (.ref f) = some (.type "function")) (F : FnF K "__init__" qual st f) (no : PySem.W.findIn K (.ref C) fl = some none)
    (rd : PySem.W.readsIn K PC mc = true) (ga : PySem.W.specialIn K (.ref PC) "__getattribute__" = some (some (.builtin "type.__getattribute__"))) (fc : PySem.W.findCls K (.ref PC) mc "__init__" = some (.val (.builtin "ValueError.__init__"))) : ExK K mg c base_ fl qual st :=
  ⟨C, f, PC, mc, a, b, ⟨⟨nm, q, N, bs, bm, sn, sub, ab, col, dd, k0, k1, k2, k3, k5, xl, xr⟩, sa, ex, ty, kC⟩, ii, ti, F, no, ⟨rd, ga⟩, fc⟩
/-- a witness that is found later -/
theorem ei {α : Sort u} {p : α → Prop} {a : α} (h : p a) : Exists p := ⟨a, h⟩
theorem klst_mk2 {K : Fg} {P : Program} {w : World} {mg : Str → Option Value} {x : Str} {zs : List Str} {a : Addr} {its : Array Value} {n : Nat} {sl : Array (Option Value)} (g : mg x = some (.ref a)) (l : K.lookup a = some ⟨.type "list", none, .seq its n, sl⟩) (v : Vals (zs.map V.str) its.toList) (z : its.size ≤ 1000) : KLst ⟨K, P, w, mg⟩ x (zs.map D.str) :=
  klstS_mk (B := ⟨K, P, w, mg⟩) (dd := none) g l v z
theorem valT3 {K : Fg} {P : Program} {w : World} {mg : Str → Option Value} {y z : Str} {a : Addr} {dd : Option Addr} {t u : Tok} {n : Nat} {sl : Array (Option Value)} (l : K.lookup a = some ⟨.type "tuple", dd, .seq #[.str y t, .str z u] n, sl⟩) : ∃ v, RelV v (.ref a) ∧ ∀ G, Rep ⟨K, P, w, mg⟩ G (.tup [.str y, .str z]) v :=
  valT2 (B := ⟨K, P, w, mg⟩) l
theorem ktab_mk2 {K : Fg} {P : Program} {w : World} {mg : Str → Option Value} {x : Str} {kvs : List (Str × D)} {a : Addr} {es : Array DictEntry} {n : Nat} (g : mg x = some (.ref a)) (l : K.lookup a = some ⟨.type "dict", none, .dict es n, #[]⟩) (k : PySem.W.KeysLit w.params es.toList) (low : (a == sysModules) = false) (e : Ents ⟨K, P, w, mg⟩ es.toList kvs) : KTab ⟨K, P, w, mg⟩ x kvs :=
  ktab_mk (B := ⟨K, P, w, mg⟩) g l k low e
theorem errk_mk {K : Fg} {mg : Str → Option Value} {PE NF A1 A2 A3 A4 A5 : Addr} (a0 : mg "PadError" = some (.ref PE)) (a1 : mg "NoForm" = some (.ref NF)) (a2 : mg "NoNumber" = some (.ref A1)) (a3 : mg "NoRow" = some (.ref A2)) (a4 : mg "NoText" = some (.ref A3)) (a5 : mg "NoValue" = some (.ref A4)) (a6 : mg "TooWide" = some (.ref A5))
    (ex : PySem.W.exmOne K (.ref NF) (.ref PE) = some true) (x1 : ExcC K NF) (x2 : XfC K NF) (no : PySem.W.findIn K (.ref NF) "at" = some none) (ka : PySem.W.kitAny K (.ref NF) [.ref A1, .ref A2, .ref A3, .ref A4, .ref A5] = some false)
    (kv : PySem.W.kitOne K (.ref NF) (.type "ValueError") = some true) (kn : PySem.W.kitOne K (.ref NF) (.ref NF) = some true) (ve : mg "ValueError" = none) : ErrK K mg :=
  ⟨⟨PE, NF, A1, A2, A3, A4, A5, a0, a1, a2, a3, a4, a5, a6, ex, x1, x2, no, ka, kv, kn⟩, ve⟩
end DL
set_option pp.maxSteps 60 in
set_option pp.deepTerms false in
open PySem PySem.W PyProof.Rows L2 DL in
set_option maxRecDepth 100000 in
set_option maxHeartbeats 0 in
theorem PySem.Challenge.cw_padwright_k50_any_word_anywhere_holds : PySem.Challenge.rw_padwright_k50_any_word_anywhere.Holds := by
  w_on; o_law; k_head; (case hw => w_witness2)
  k_fill
  refine DL.walk50 (l := PySem.Challenge.rw_padwright_k50_any_word_anywhere) rfl rfl (fun w h Y => PySem.W.kIn_of Y) ?F
  case F =>
    intro w mg fa h KX G hmg
    refine' DL.fin50 KX G hmg ?plain50 ?t_is_text ?t_read_tail ?t_allow_strict ?t_ends_of ?t_power_of ?t_marks_in ?t_grouped ?t_figures_of ?t_body_of ?t_is_whole ?t_divisor_of ?t_is_fraction ?t_gridded ?t_read_number_form ?t_read_word_form ?t_read_choice_form ?t_read_form ?t__law_whole ?t__law_pick ?t__law_all_signs ?t__law_drawn_sign ?t__law_number_spec ?t__law_word_spec ?t__law_sets ?t__law_near_names ?t__law_choice_spec ?t__law_shortest ?t__law_any_spec ?t__law_signs_word ?t__law_sign_word ?t__law_first_rows ?t__law_word_rows ?t__law_refused ?t__law_keys ?t__law_lists ?t__law_language ?t__law_new_word ?t__law_is_figures ?t__law_rises ?t__law_may_stand ?t__law_one_right ?t__law_signs_right ?t__law_right ?t__law_cell_at ?t_law ?k_Reading ?k_NumberForm ?k_WordForm ?k_ChoiceForm ?k_Form ?k_SIGNS ?k_MOST_WIDTH ?k_BELOW ?k_ABOVE ?k_FIGURES ?k_STYLES ?k_WAYS ?k_SIDES ?k_MOST_SIGNS ?k_MOST_NAMES ?k_MOST_LETTERS ?B ?nf ?er
    (case t_is_text => refine' ei ⟨PySem.W.mg_of KX G ?a, fnf_mk ?l ?c ?k⟩; (case a => k_is); (case l => k_is); (case c => k_is); (case k => k_is))
    (case t_read_tail => refine' ei ⟨PySem.W.mg_of KX G ?a, fnf_mk ?l ?c ?k⟩; (case a => k_is); (case l => k_is); (case c => k_is); (case k => k_is))
    (case t_allow_strict => refine' ei ⟨PySem.W.mg_of KX G ?a, fnf_mk ?l ?c ?k⟩; (case a => k_is); (case l => k_is); (case c => k_is); (case k => k_is))
    (case t_ends_of => refine' ei ⟨PySem.W.mg_of KX G ?a, fnf_mk ?l ?c ?k⟩; (case a => k_is); (case l => k_is); (case c => k_is); (case k => k_is))
    (case t_power_of => refine' ei ⟨PySem.W.mg_of KX G ?a, fnf_mk ?l ?c ?k⟩; (case a => k_is); (case l => k_is); (case c => k_is); (case k => k_is))
    (case t_marks_in => refine' ei ⟨PySem.W.mg_of KX G ?a, fnf_mk ?l ?c ?k⟩; (case a => k_is); (case l => k_is); (case c => k_is); (case k => k_is))
    (case t_grouped => refine' ei ⟨PySem.W.mg_of KX G ?a, fnf_mk ?l ?c ?k⟩; (case a => k_is); (case l => k_is); (case c => k_is); (case k => k_is))
    (case t_figures_of => refine' ei ⟨PySem.W.mg_of KX G ?a, fnf_mk ?l ?c ?k⟩; (case a => k_is); (case l => k_is); (case c => k_is); (case k => k_is))
    (case t_body_of => refine' ei ⟨PySem.W.mg_of KX G ?a, fnf_mk ?l ?c ?k⟩; (case a => k_is); (case l => k_is); (case c => k_is); (case k => k_is))
    (case t_is_whole => refine' ei ⟨PySem.W.mg_of KX G ?a, fnf_mk ?l ?c ?k⟩; (case a => k_is); (case l => k_is); (case c => k_is); (case k => k_is))
    (case t_divisor_of => refine' ei ⟨PySem.W.mg_of KX G ?a, fnf_mk ?l ?c ?k⟩; (case a => k_is); (case l => k_is); (case c => k_is); (case k => k_is))
    (case t_is_fraction => refine' ei ⟨PySem.W.mg_of KX G ?a, fnf_mk ?l ?c ?k⟩; (case a => k_is); (case l => k_is); (case c => k_is); (case k => k_is))
    (case t_gridded => refine' ei ⟨PySem.W.mg_of KX G ?a, fnf_mk ?l ?c ?k⟩; (case a => k_is); (case l => k_is); (case c => k_is); (case k => k_is))
    (case t_read_number_form => refine' ei ⟨PySem.W.mg_of KX G ?a, fnf_mk ?l ?c ?k⟩; (case a => k_is); (case l => k_is); (case c => k_is); (case k => k_is))
    (case t_read_word_form => refine' ei ⟨PySem.W.mg_of KX G ?a, fnf_mk ?l ?c ?k⟩; (case a => k_is); (case l => k_is); (case c => k_is); (case k => k_is))
    (case t_read_choice_form => refine' ei ⟨PySem.W.mg_of KX G ?a, fnf_mk ?l ?c ?k⟩; (case a => k_is); (case l => k_is); (case c => k_is); (case k => k_is))
    (case t_read_form => refine' ei ⟨PySem.W.mg_of KX G ?a, fnf_mk ?l ?c ?k⟩; (case a => k_is); (case l => k_is); (case c => k_is); (case k => k_is))
    (case t__law_whole => refine' ei ⟨PySem.W.mg_of KX G ?a, fnf_mk ?l ?c ?k⟩; (case a => k_is); (case l => k_is); (case c => k_is); (case k => k_is))
    (case t__law_pick => refine' ei ⟨PySem.W.mg_of KX G ?a, fnf_mk ?l ?c ?k⟩; (case a => k_is); (case l => k_is); (case c => k_is); (case k => k_is))
    (case t__law_all_signs => refine' ei ⟨PySem.W.mg_of KX G ?a, fnf_mk ?l ?c ?k⟩; (case a => k_is); (case l => k_is); (case c => k_is); (case k => k_is))
    (case t__law_drawn_sign => refine' ei ⟨PySem.W.mg_of KX G ?a, fnf_mk ?l ?c ?k⟩; (case a => k_is); (case l => k_is); (case c => k_is); (case k => k_is))
    (case t__law_number_spec => refine' ei ⟨PySem.W.mg_of KX G ?a, fnf_mk ?l ?c ?k⟩; (case a => k_is); (case l => k_is); (case c => k_is); (case k => k_is))
    (case t__law_word_spec => refine' ei ⟨PySem.W.mg_of KX G ?a, fnf_mk ?l ?c ?k⟩; (case a => k_is); (case l => k_is); (case c => k_is); (case k => k_is))
    (case t__law_sets => refine' ei ⟨PySem.W.mg_of KX G ?a, fnf_mk ?l ?c ?k⟩; (case a => k_is); (case l => k_is); (case c => k_is); (case k => k_is))
    (case t__law_near_names => refine' ei ⟨PySem.W.mg_of KX G ?a, fnf_mk ?l ?c ?k⟩; (case a => k_is); (case l => k_is); (case c => k_is); (case k => k_is))
    (case t__law_choice_spec => refine' ei ⟨PySem.W.mg_of KX G ?a, fnf_mk ?l ?c ?k⟩; (case a => k_is); (case l => k_is); (case c => k_is); (case k => k_is))
    (case t__law_shortest => refine' ei ⟨PySem.W.mg_of KX G ?a, fnf_mk ?l ?c ?k⟩; (case a => k_is); (case l => k_is); (case c => k_is); (case k => k_is))
    (case t__law_any_spec => refine' ei ⟨PySem.W.mg_of KX G ?a, fnf_mk ?l ?c ?k⟩; (case a => k_is); (case l => k_is); (case c => k_is); (case k => k_is))
    (case t__law_signs_word => refine' ei ⟨PySem.W.mg_of KX G ?a, fnf_mk ?l ?c ?k⟩; (case a => k_is); (case l => k_is); (case c => k_is); (case k => k_is))
    (case t__law_sign_word => refine' ei ⟨PySem.W.mg_of KX G ?a, fnf_mk ?l ?c ?k⟩; (case a => k_is); (case l => k_is); (case c => k_is); (case k => k_is))
    (case t__law_first_rows => refine' ei ⟨PySem.W.mg_of KX G ?a, fnf_mk ?l ?c ?k⟩; (case a => k_is); (case l => k_is); (case c => k_is); (case k => k_is))
    (case t__law_word_rows => refine' ei ⟨PySem.W.mg_of KX G ?a, fnf_mk ?l ?c ?k⟩; (case a => k_is); (case l => k_is); (case c => k_is); (case k => k_is))
    (case t__law_refused => refine' ei ⟨PySem.W.mg_of KX G ?a, fnf_mk ?l ?c ?k⟩; (case a => k_is); (case l => k_is); (case c => k_is); (case k => k_is))
    (case t__law_keys => refine' ei ⟨PySem.W.mg_of KX G ?a, fnf_mk ?l ?c ?k⟩; (case a => k_is); (case l => k_is); (case c => k_is); (case k => k_is))
    (case t__law_lists => refine' ei ⟨PySem.W.mg_of KX G ?a, fnf_mk ?l ?c ?k⟩; (case a => k_is); (case l => k_is); (case c => k_is); (case k => k_is))
    (case t__law_language => refine' ei ⟨PySem.W.mg_of KX G ?a, fnf_mk ?l ?c ?k⟩; (case a => k_is); (case l => k_is); (case c => k_is); (case k => k_is))
    (case t__law_new_word => refine' ei ⟨PySem.W.mg_of KX G ?a, fnf_mk ?l ?c ?k⟩; (case a => k_is); (case l => k_is); (case c => k_is); (case k => k_is))
    (case t__law_is_figures => refine' ei ⟨PySem.W.mg_of KX G ?a, fnf_mk ?l ?c ?k⟩; (case a => k_is); (case l => k_is); (case c => k_is); (case k => k_is))
    (case t__law_rises => refine' ei ⟨PySem.W.mg_of KX G ?a, fnf_mk ?l ?c ?k⟩; (case a => k_is); (case l => k_is); (case c => k_is); (case k => k_is))
    (case t__law_may_stand => refine' ei ⟨PySem.W.mg_of KX G ?a, fnf_mk ?l ?c ?k⟩; (case a => k_is); (case l => k_is); (case c => k_is); (case k => k_is))
    (case t__law_one_right => refine' ei ⟨PySem.W.mg_of KX G ?a, fnf_mk ?l ?c ?k⟩; (case a => k_is); (case l => k_is); (case c => k_is); (case k => k_is))
    (case t__law_signs_right => refine' ei ⟨PySem.W.mg_of KX G ?a, fnf_mk ?l ?c ?k⟩; (case a => k_is); (case l => k_is); (case c => k_is); (case k => k_is))
    (case t__law_right => refine' ei ⟨PySem.W.mg_of KX G ?a, fnf_mk ?l ?c ?k⟩; (case a => k_is); (case l => k_is); (case c => k_is); (case k => k_is))
    (case t__law_cell_at => refine' ei ⟨PySem.W.mg_of KX G ?a, fnf_mk ?l ?c ?k⟩; (case a => k_is); (case l => k_is); (case c => k_is); (case k => k_is))
    (case t_law => refine' ei ⟨PySem.W.mg_of KX G ?a, fnf_mk ?l ?c ?k⟩; (case a => k_is); (case l => k_is); (case c => k_is); (case k => k_is))
    (case k_Reading => refine' ei ⟨clk_mk (PySem.W.mg_of KX G ?a) ?pg ?hd ?po ?sa, ?n0, ?n1, ei ⟨⟨?mk, ?ii, ?fn, ?kp⟩, fnf_mk ?li ?ci ?ki⟩, ei ⟨mtk_mk ?ma0 ?mi0 ?mk0, fnf_mk ?ml0 ?mc0 ?mq0⟩, ei ⟨mtk_mk ?ma1 ?mi1 ?mk1, fnf_mk ?ml1 ?mc1 ?mq1⟩, ei ⟨mtk_mk ?ma2 ?mi2 ?mk2, fnf_mk ?ml2 ?mc2 ?mq2⟩, ei ⟨mtk_mk ?ma3 ?mi3 ?mk3, fnf_mk ?ml3 ?mc3 ?mq3⟩, ei ⟨mtk_mk ?ma4 ?mi4 ?mk4, fnf_mk ?ml4 ?mc4 ?mq4⟩, ei ⟨mtk_mk ?ma5 ?mi5 ?mk5, fnf_mk ?ml5 ?mc5 ?mq5⟩⟩; (case a => k_is); (case pg => k_is); (case hd => k_is); (case po => k_is); (case sa => k_is); (case n0 => k_is); (case n1 => k_is); (case mk => k_is); (case ii => k_is); (case fn => k_is); (case kp => k_is); (case li => k_is); (case ci => k_is); (case ki => k_is); (case ma0 => k_is); (case mi0 => k_is); (case mk0 => k_is); (case ml0 => k_is); (case mc0 => k_is); (case mq0 => k_is); (case ma1 => k_is); (case mi1 => k_is); (case mk1 => k_is); (case ml1 => k_is); (case mc1 => k_is); (case mq1 => k_is); (case ma2 => k_is); (case mi2 => k_is); (case mk2 => k_is); (case ml2 => k_is); (case mc2 => k_is); (case mq2 => k_is); (case ma3 => k_is); (case mi3 => k_is); (case mk3 => k_is); (case ml3 => k_is); (case mc3 => k_is); (case mq3 => k_is); (case ma4 => k_is); (case mi4 => k_is); (case mk4 => k_is); (case ml4 => k_is); (case mc4 => k_is); (case mq4 => k_is); (case ma5 => k_is); (case mi5 => k_is); (case mk5 => k_is); (case ml5 => k_is); (case mc5 => k_is); (case mq5 => k_is))
    (case k_NumberForm => refine' ei ⟨clk_mk (PySem.W.mg_of KX G ?a) ?pg ?hd ?po ?sa, ?n0, ?n1, ?n2, ?n3, ?n4, ?n5, ?n6, ?n7, ?n8, ?n9, ?n10, ?n11, ei ⟨⟨?mk, ?ii, ?fn, ?kp⟩, fnd_mk ?li ?ci ?ti ?ki ?kd⟩, ei ⟨mtk_mk ?ma0 ?mi0 ?mk0, fnf_mk ?ml0 ?mc0 ?mq0⟩, ei ⟨mtk_mk ?ma1 ?mi1 ?mk1, fnf_mk ?ml1 ?mc1 ?mq1⟩, ei ⟨mtk_mk ?ma2 ?mi2 ?mk2, fnf_mk ?ml2 ?mc2 ?mq2⟩⟩; (case a => k_is); (case pg => k_is); (case hd => k_is); (case po => k_is); (case sa => k_is); (case n0 => k_is); (case n1 => k_is); (case n2 => k_is); (case n3 => k_is); (case n4 => k_is); (case n5 => k_is); (case n6 => k_is); (case n7 => k_is); (case n8 => k_is); (case n9 => k_is); (case n10 => k_is); (case n11 => k_is); (case mk => k_is); (case ii => k_is); (case fn => k_is); (case kp => k_is); (case li => k_is); (case ci => k_is); (case ti => k_is); (case ki => k_is); (case kd => rfl); (case ma0 => k_is); (case mi0 => k_is); (case mk0 => k_is); (case ml0 => k_is); (case mc0 => k_is); (case mq0 => k_is); (case ma1 => k_is); (case mi1 => k_is); (case mk1 => k_is); (case ml1 => k_is); (case mc1 => k_is); (case mq1 => k_is); (case ma2 => k_is); (case mi2 => k_is); (case mk2 => k_is); (case ml2 => k_is); (case mc2 => k_is); (case mq2 => k_is))
    (case k_WordForm => refine' ei ⟨clk_mk (PySem.W.mg_of KX G ?a) ?pg ?hd ?po ?sa, ?n0, ?n1, ?n2, ?n3, ?n4, ?n5, ?n6, ei ⟨⟨?mk, ?ii, ?fn, ?kp⟩, fnd_mk ?li ?ci ?ti ?ki ?kd⟩⟩; (case a => k_is); (case pg => k_is); (case hd => k_is); (case po => k_is); (case sa => k_is); (case n0 => k_is); (case n1 => k_is); (case n2 => k_is); (case n3 => k_is); (case n4 => k_is); (case n5 => k_is); (case n6 => k_is); (case mk => k_is); (case ii => k_is); (case fn => k_is); (case kp => k_is); (case li => k_is); (case ci => k_is); (case ti => k_is); (case ki => k_is); (case kd => rfl))
    (case k_ChoiceForm => refine' ei ⟨clk_mk (PySem.W.mg_of KX G ?a) ?pg ?hd ?po ?sa, ?n0, ?n1, ?n2, ?n3, ?n4, ei ⟨⟨?mk, ?ii, ?fn, ?kp⟩, fnd_mk ?li ?ci ?ti ?ki ?kd⟩⟩; (case a => k_is); (case pg => k_is); (case hd => k_is); (case po => k_is); (case sa => k_is); (case n0 => k_is); (case n1 => k_is); (case n2 => k_is); (case n3 => k_is); (case n4 => k_is); (case mk => k_is); (case ii => k_is); (case fn => k_is); (case kp => k_is); (case li => k_is); (case ci => k_is); (case ti => k_is); (case ki => k_is); (case kd => rfl))
    (case k_Form => refine' ei (ei (a := .type "type") (ei ⟨PySem.W.mg_of KX G ?a, ?r, ?g, ?f, fnf_mk ?l ?c ?k⟩)); (case a => k_is); (case r => k_is); (case g => k_is); (case f => k_is); (case l => k_is); (case c => k_is); (case k => k_is))
    (case k_SIGNS => refine' ktab_mk2 (PySem.W.mg_of KX G ?a) ?l ?k ?lo ?e; (case a => k_is); (case l => k_is); (case k => k_keys); (case lo => decide); (case e => exact ents_cons (ei rfl) valS (ents_cons (ei rfl) valS (ents_cons (ei rfl) valS (ents_cons (ei rfl) valS (ents_nil))))))
    (case k_MOST_WIDTH => refine' ei (PySem.W.mg_of KX G ?a); (case a => k_is))
    (case k_BELOW => refine' ktab_mk2 (PySem.W.mg_of KX G ?a) ?l ?k ?lo ?e; (case a => k_is); (case l => k_is); (case k => k_keys); (case lo => decide); (case e => refine' ents_cons (ei rfl) (valT3 ?t0) (ents_cons (ei rfl) (valT3 ?t1) (ents_cons (ei rfl) (valT3 ?t2) (ents_cons (ei rfl) (valT3 ?t3) (ents_cons (ei rfl) (valT3 ?t4) (ents_nil))))); (case t0 => k_is); (case t1 => k_is); (case t2 => k_is); (case t3 => k_is); (case t4 => k_is)))
    (case k_ABOVE => refine' ktab_mk2 (PySem.W.mg_of KX G ?a) ?l ?k ?lo ?e; (case a => k_is); (case l => k_is); (case k => k_keys); (case lo => decide); (case e => refine' ents_cons (ei rfl) (valT3 ?t0) (ents_cons (ei rfl) (valT3 ?t1) (ents_cons (ei rfl) (valT3 ?t2) (ents_cons (ei rfl) (valT3 ?t3) (ents_cons (ei rfl) (valT3 ?t4) (ents_nil))))); (case t0 => k_is); (case t1 => k_is); (case t2 => k_is); (case t3 => k_is); (case t4 => k_is)))
    (case k_FIGURES => refine' ei (PySem.W.mg_of KX G ?a); (case a => k_is))
    (case k_STYLES => refine' klst_mk2 (zs := ["minus", "plus", "blank", "brackets", "behind"]) (PySem.W.mg_of KX G ?a) ?l ?v ?z; (case a => k_is); (case l => k_is); (case v => exact .cons ⟨_, rfl⟩ (.cons ⟨_, rfl⟩ (.cons ⟨_, rfl⟩ (.cons ⟨_, rfl⟩ (.cons ⟨_, rfl⟩ (.nil)))))); (case z => show 5 ≤ 1000; omega))
    (case k_WAYS => refine' klst_mk2 (zs := ["down", "up", "cut", "near", "even"]) (PySem.W.mg_of KX G ?a) ?l ?v ?z; (case a => k_is); (case l => k_is); (case v => exact .cons ⟨_, rfl⟩ (.cons ⟨_, rfl⟩ (.cons ⟨_, rfl⟩ (.cons ⟨_, rfl⟩ (.cons ⟨_, rfl⟩ (.nil)))))); (case z => show 5 ≤ 1000; omega))
    (case k_SIDES => refine' klst_mk2 (zs := ["left", "right", "middle"]) (PySem.W.mg_of KX G ?a) ?l ?v ?z; (case a => k_is); (case l => k_is); (case v => exact .cons ⟨_, rfl⟩ (.cons ⟨_, rfl⟩ (.cons ⟨_, rfl⟩ (.nil)))); (case z => show 3 ≤ 1000; omega))
    (case k_MOST_SIGNS => refine' ei (PySem.W.mg_of KX G ?a); (case a => k_is))
    (case k_MOST_NAMES => refine' ei (PySem.W.mg_of KX G ?a); (case a => k_is))
    (case k_MOST_LETTERS => refine' ei (PySem.W.mg_of KX G ?a); (case a => k_is))
    (case B => refine' ⟨?b0, ?b1, ?b2, ?b3, ?b4, ?b5, ?b6, ?b7, ?b8, ?b9, ?b10, ?b11, ?b12, ?b13⟩ <;> (refine' PySem.W.mg_none_of KX G ?a; (case a => k_is)))
    (case nf => refine' exk_mk (mc := .type "type") (PySem.W.mg_of KX G ?a) (PySem.W.mg_of KX G ?b) ?xl ?xr ?sa ?ex ?ty ?kC ?ii ?ti (fnf_mk ?l ?c ?k) ?no ?rd ?ga ?fc; (case a => k_is); (case b => k_is); (case xl => k_is); (case xr => decide +kernel); (case sa => k_is); (case ex => k_is); (case ty => k_is); (case kC => k_is); (case ii => k_is); (case ti => k_is); (case l => k_is); (case c => k_is); (case k => k_is); (case no => k_is); (case rd => k_is); (case ga => k_is); (case fc => k_is))
    (case er => refine' errk_mk (PySem.W.mg_of KX G ?a0) (PySem.W.mg_of KX G ?a1) (PySem.W.mg_of KX G ?a2) (PySem.W.mg_of KX G ?a3) (PySem.W.mg_of KX G ?a4) (PySem.W.mg_of KX G ?a5) (PySem.W.mg_of KX G ?a6) (PySem.W.exm_ref ?e1 ?e2 ?e3 ?e4) ⟨?x1, ?x2, ?x3, ?x4, ?x5, ?x6, ?x7, ?x8⟩ ⟨?y1, ?y2, ?y3, ?y4⟩ ?no ?ka ?kv ?kn (PySem.W.mg_none_of KX G ?ve); (case a0 => k_is); (case a1 => k_is); (case a2 => k_is); (case a3 => k_is); (case a4 => k_is); (case a5 => k_is); (case a6 => k_is); (case e1 => k_is); (case e2 => k_is); (case e3 => k_is); (case e4 => k_is); (case x1 => k_is); (case x2 => k_is); (case x3 => k_is); (case x4 => k_is); (case x5 => k_is); (case x6 => k_is); (case x7 => k_is); (case x8 => k_is); (case y1 => k_is); (case y2 => k_is); (case y3 => k_is); (case y4 => k_is); (case no => k_is); (case ka => kit_is); (case kv => kit_is); (case kn => kit_is); (case ve => k_is))
    (case plain50 => exact fun ns _ => DL.plain_law ns)
